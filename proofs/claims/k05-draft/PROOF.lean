import PyProof.Rows.All
import Wide.All
import OpenK.AllK
import Wide.FinOn
import HandS.ForMost
import HandS.Deep
import HandS.ForExc
import HandS.Defaults
import HandS.IsInst
import HandS.TupAny
import HandS.TupLe
import HandS.CallSlots
import HandS.MakeKwOnly
import HandS.ClsMeth
import HandS.IterVal
import KE.KOwnIter
import HandS.Head0
import HandS.Head1
import HandS.Head2
import HandS.HeadEnd
import HandS.HeadHook1
import HandS.HeadHook2
import HandS.HeadNt
import HandS.Codes
import HandS.ExcInit
import HandS.ExcSuper
import HandS.ExcField
import HandS.ExcIs
import HandS.TryOnly
import KE.KExcSuper
import KE.KExcIs
import HandS.OwnIter
import HandS.SetFor
import HandS.Zip
import HandS.MakeKw
import HandS.Style
import PySem.Challenge.RW_twicebased_k05_draft
import HandS.Rev
import HandS.DictComp
import KE.KExcRaise
import HandS.Text
import HandS.StrMore
import HandS.ExcInitHot
import HandS.SuiteRaise
import HandS.GenList
set_option Elab.async false
set_option linter.all false
set_option maxRecDepth 100000
namespace Tw
open PySem
/-- data: a Python value without the heap -/
inductive D where
  | non | bl (b : Bool) | int (i : Int) | str (s : Str) | cls (n : String)
  | scr (ns : List Int) | gst (j : Nat)
  | tup (l : List D) | lst (l : List D)
  | dct (ks : List Str) (vs : List D)
  | obj (c : String) (ks : List Str) (vs : List D)
  deriving Inhabited
/-- an exception: its class, its fields -/
structure Ex where
  cls : String
  ks : List Str
  vs : List D
/-- what comes of a piece of text: a value, an exception, or nothing is said -/
inductive R (α : Type) where
  | ok (a : α) | ex (e : Ex) | no
/-- an operation that raises nothing -/
def R.of {α : Type} : Option α → R α
  | some a => .ok a
  | none => .no
@[simp] theorem R.of_some {α : Type} (a : α) : R.of (some a) = .ok a := rfl
@[simp] theorem R.of_none {α : Type} : R.of (none : Option α) = .no := rfl
def R.bind {α β : Type} : R α → (α → R β) → R β
  | .ok a, f => f a
  | .ex e, _ => .ex e
  | .no, _ => .no
@[simp] theorem R.bind_ok {α β : Type} (a : α) (f : α → R β) : (R.ok a).bind f = f a := rfl
@[simp] theorem R.bind_ex {α β : Type} (e : Ex) (f : α → R β) : (R.ex e : R α).bind f = .ex e := rfl
@[simp] theorem R.bind_no {α β : Type} (f : α → R β) : (R.no : R α).bind f = .no := rfl
/-- a name's content: a value; a container of the def's own (nobody else holds it); the object under construction -/
inductive Slot where
  | val (d : D) | own (d : D) | slf (d : D) | gho (d : D) | ptr | pin (d : D)
abbrev DEnv := List (Option Slot)
abbrev DE := DEnv → R D
abbrev DI := DEnv → R (List D)
inductive Out where
  | nx (ρ : DEnv) | rt (d : D) (ρ : DEnv) | bk (ρ : DEnv) | ct (ρ : DEnv) | xx (e : Ex) (ρ : DEnv)
abbrev DS := DEnv → R Out
/-- the attributes of the program's classes -/
def fldOf : String → List Str
  | "Titled" => ["title"]
  | "Base" => ["title", "is_shared"]
  | "Declaring" => ["names", "statics"]
  | "Draft" => ["title", "names", "statics", "bases"]
  | "Kind" => ["title", "names", "statics", "bases", "above", "shared_bases"]
  | "Library" => ["kinds", "places", "names"]
  | "Table" => ["title", "live", "rows"]
  | "Whole" => ["title", "rows", "answers"]
  | _ => []
def w64 (i : Int) : Prop := -(2 ^ 64) < i ∧ i < 2 ^ 64
instance (n : Int) : Decidable (w64 n) := by unfold w64; infer_instance
def rngOk (n : Int) : Prop := -(2 ^ 62) ≤ n ∧ n < 2 ^ 62
instance (n : Int) : Decidable (rngOk n) := by unfold rngOk; infer_instance
def e1 (f : D → Option D) (a : DE) : DE := fun ρ => (a ρ).bind fun x => R.of (f x)
def e2 (f : D → D → Option D) (a b : DE) : DE := fun ρ => (a ρ).bind fun x => (b ρ).bind fun y => R.of (f x y)
/-- an exception out of an expression leaves the statement -/
def R.st {α : Type} (r : R α) (ρ : DEnv) (f : α → R Out) : R Out := match r with
  | .ok a => f a
  | .ex e => .ok (.xx e ρ)
  | .no => .no
@[simp] theorem R.st_ok {α : Type} (a : α) (ρ : DEnv) (f : α → R Out) : (R.ok a).st ρ f = f a := rfl
@[simp] theorem R.st_ex {α : Type} (e : Ex) (ρ : DEnv) (f : α → R Out) : (R.ex e : R α).st ρ f = .ok (.xx e ρ) := rfl
@[simp] theorem R.st_no {α : Type} (ρ : DEnv) (f : α → R Out) : (R.no : R α).st ρ f = .no := rfl
/-- no field of the object waits for a container of its own -/
def noGst : List D → Bool
  | [] => true
  | .gst _ :: _ => false
  | _ :: l => noGst l
end Tw

set_option maxHeartbeats 2000000
namespace Tw
open PySem PySem.Spec L2
open PyProof.Rows hiding St
def KTup (K : PySem.W.Frag) (a : Addr) (xs : List V) : Prop := ∃ (o : Obj) (its : Array Value) (n : Nat), K.lookup a = some o ∧ o.cls = .type "tuple" ∧ o.data = .seq its n ∧ its.size ≤ sizeLine ∧ Vals xs its.toList
def KLst (K : PySem.W.Frag) (a : Addr) (xs : List V) : Prop := ∃ (o : Obj) (its : Array Value) (n : Nat), K.lookup a = some o ∧ o.cls = .type "list" ∧ o.dict = none ∧ o.data = .seq its n ∧ its.size ≤ sizeLine ∧ Vals xs its.toList
structure Gc where
  K : PySem.W.Frag
  cm : String → Addr
  has : String → Prop
  cls : ∀ c, has c → Cls K (cm c)
  noat : ∀ c f, has c → f ∈ fldOf c → NoAttr K (cm c) f
def OkO (G : Gc) (c : String) (ks : List Str) : Prop := G.has c ∧ ∀ f ∈ ks, f ∈ fldOf c
def sKeys : List Str → List V → List (Key × V)
  | k :: ks, v :: vs => (Sum.inr k, v) :: sKeys ks vs
  | _, _ => []
def fKeys : List Str → List V → List (Str × V)
  | k :: ks, v :: vs => (k, v) :: fKeys ks vs
  | _, _ => []
mutual
/-- the value v stands for the data d; what it leans on is not in Z -/
def Rep (G : Gc) (Z : Addr → Prop) (H : Hp) : D → V → Prop
  | .non, v => v = .non
  | .bl b, v => v = .bl b
  | .int i, v => v = .int i
  | .str s, v => v = .str s
  | .cls n, v => v = .ref (G.cm n)
  | .gst _, _ => False
  | .scr ns, v => ∃ a, v = .ref a ∧ ((¬ Z a ∧ Rd H a (.lst (ns.map V.int))) ∨ KLst G.K a (ns.map V.int))
  | .tup l, v => ∃ a vs, v = .ref a ∧ ((¬ Z a ∧ H a = some (.tup vs)) ∨ KTup G.K a vs) ∧ RepL G Z H l vs
  | .lst l, v => ∃ a vs, v = .ref a ∧ ¬ Z a ∧ H a = some (.lst vs) ∧ RepL G Z H l vs
  | .dct ks l, v => ∃ a vs, v = .ref a ∧ ¬ Z a ∧ H a = some (.dK (sKeys ks vs)) ∧ ks.length = vs.length ∧ RepL G Z H l vs
  | .obj c ks l, v => ∃ a dx vs, v = .ref a ∧ ¬ Z a ∧ H a = some (.ins (G.cm c) dx (fKeys ks vs)) ∧ (ks.length = vs.length ∧ OkO G c ks) ∧ RepL G Z H l vs
def RepL (G : Gc) (Z : Addr → Prop) (H : Hp) : List D → List V → Prop
  | [], vs => vs = []
  | d :: ds, vs => ∃ v r, vs = v :: r ∧ Rep G Z H d v ∧ RepL G Z H ds r
end
/-- H' has all of H that is not in Z -/
def Sub (Z : Addr → Prop) (H H' : Hp) : Prop := ∀ a o, ¬ Z a → H a = some o → H' a = some o
theorem Same.sub {Z : Addr → Prop} {H H' : Hp} (s : Same H H') : Sub Z H H' := fun a o _ h => s a o h
mutual
theorem Rep.mono {G : Gc} {Z Z' : Addr → Prop} {H H' : Hp} (s : Sub Z H H') (z : ∀ a, Z' a → Z a ∨ H a = none) : ∀ {d : D} {v : V}, Rep G Z H d v → Rep G Z' H' d v
  | .non, v, h => h
  | .bl b, v, h => h
  | .int i, v, h => h
  | .str x, v, h => h
  | .cls n, v, h => h
  | .gst j, v, h => h.elim
  | .scr ns, v, h => by
    obtain ⟨a, e, h⟩ := h
    rcases h with ⟨n, h | ⟨o, h⟩⟩ | h
    · exact ⟨a, e, .inl ⟨fun q => (z a q).elim n (fun q => by rw [q] at h; cases h), .inl (s a _ n h)⟩⟩
    · exact ⟨a, e, .inl ⟨fun q => (z a q).elim n (fun q => by rw [q] at h; cases h), .inr ⟨o, s a _ n h⟩⟩⟩
    · exact ⟨a, e, .inr h⟩
  | .tup l, v, h => by
    obtain ⟨a, vs, e, t, r⟩ := h
    refine ⟨a, vs, e, ?_, RepL.mono s z r⟩
    rcases t with ⟨n, t⟩ | t
    · exact .inl ⟨fun q => (z a q).elim n (fun q => by rw [q] at t; cases t), s a _ n t⟩
    · exact .inr t
  | .lst l, v, h => by
    obtain ⟨a, vs, e, n, t, r⟩ := h
    exact ⟨a, vs, e, fun q => (z a q).elim n (fun q => by rw [q] at t; cases t), s a _ n t, RepL.mono s z r⟩
  | .dct ks l, v, h => by
    obtain ⟨a, vs, e, n, t, k, r⟩ := h
    exact ⟨a, vs, e, fun q => (z a q).elim n (fun q => by rw [q] at t; cases t), s a _ n t, k, RepL.mono s z r⟩
  | .obj c ks l, v, h => by
    obtain ⟨a, dx, vs, e, n, t, k, r⟩ := h
    exact ⟨a, dx, vs, e, fun q => (z a q).elim n (fun q => by rw [q] at t; cases t), s a _ n t, k, RepL.mono s z r⟩
theorem RepL.mono {G : Gc} {Z Z' : Addr → Prop} {H H' : Hp} (s : Sub Z H H') (z : ∀ a, Z' a → Z a ∨ H a = none) : ∀ {ds : List D} {vs : List V}, RepL G Z H ds vs → RepL G Z' H' ds vs
  | [], vs, h => h
  | d :: ds, vs, h => by
    obtain ⟨v, r, e, h1, h2⟩ := h
    exact ⟨v, r, e, Rep.mono s z h1, RepL.mono s z h2⟩
end
section
variable {G : Gc} {Z Z' : Addr → Prop} {H H' : Hp}
theorem Rep.weak (z : ∀ a, Z' a → Z a) {d : D} {v : V} (h : Rep G Z H d v) : Rep G Z' H d v := Rep.mono (fun _ _ _ h => h) (fun a q => .inl (z a q)) h
theorem RepL.weak (z : ∀ a, Z' a → Z a) {d : List D} {v : List V} (h : RepL G Z H d v) : RepL G Z' H d v := RepL.mono (fun _ _ _ h => h) (fun a q => .inl (z a q)) h
theorem RepL.length : ∀ {ds : List D} {vs : List V}, RepL G Z H ds vs → ds.length = vs.length
  | [], vs, h => by rw [show vs = [] from h]; rfl
  | d :: ds, vs, h => by
    obtain ⟨v, r, e, _, h2⟩ := h
    rw [e, List.length_cons, List.length_cons, RepL.length h2]
theorem RepL.get : ∀ {ds : List D} {vs : List V} {i : Nat} {d : D}, RepL G Z H ds vs → ds[i]? = some d → ∃ v, vs[i]? = some v ∧ Rep G Z H d v
  | [], vs, i, d, h, e => by simp at e
  | d' :: ds, vs, 0, d, h, e => by
    obtain ⟨v, r, rfl, h1, _⟩ := h
    simp at e
    subst e
    exact ⟨v, rfl, h1⟩
  | d' :: ds, vs, i + 1, d, h, e => by
    obtain ⟨v, r, rfl, _, h2⟩ := h
    obtain ⟨u, e1, e2⟩ := RepL.get (i := i) h2 (by simpa using e)
    exact ⟨u, by simpa using e1, e2⟩
theorem RepL.drop : ∀ {ds : List D} {vs : List V} (n : Nat), RepL G Z H ds vs → RepL G Z H (ds.drop n) (vs.drop n)
  | ds, vs, 0, h => h
  | [], vs, n + 1, h => by rw [show vs = [] from h]; simp [RepL]
  | d :: ds, vs, n + 1, h => by
    obtain ⟨v, r, rfl, h1, h2⟩ := h
    exact RepL.drop n h2
theorem RepL.set : ∀ {ds : List D} {vs : List V} {d : D} {v : V} (n : Nat), RepL G Z H ds vs → Rep G Z H d v → RepL G Z H (ds.set n d) (vs.set n v)
  | [], vs, _, _, n, h, _ => by rw [show vs = [] from h]; simp [RepL]
  | d :: ds, vs, e, w, 0, h, k => by
    obtain ⟨v, r, rfl, h1, h2⟩ := h
    exact ⟨w, r, rfl, k, h2⟩
  | d :: ds, vs, e, w, n + 1, h, k => by
    obtain ⟨v, r, rfl, h1, h2⟩ := h
    exact ⟨v, r.set n w, rfl, h1, RepL.set n h2 k⟩
theorem RepL.cons {d : D} {v : V} {ds : List D} {vs : List V} (h : Rep G Z H d v) (t : RepL G Z H ds vs) : RepL G Z H (d :: ds) (v :: vs) := ⟨v, vs, rfl, h, t⟩
theorem RepL.nil : RepL G Z H [] [] := rfl
end
/-- a container, its items; it may be anybody's -/
def RepW (G : Gc) (Z : Addr → Prop) (H : Hp) (d : D) (v : V) : Prop := match d with
  | .lst l => ∃ a vs, v = .ref a ∧ H a = some (.lst vs) ∧ RepL G Z H l vs
  | .dct ks l => ∃ a vs, v = .ref a ∧ H a = some (.dK (sKeys ks vs)) ∧ ks.length = vs.length ∧ RepL G Z H l vs
  | .obj c ks l => ∃ a dx vs, v = .ref a ∧ H a = some (.ins (G.cm c) dx (fKeys ks vs)) ∧ (ks.length = vs.length ∧ OkO G c ks) ∧ RepL G Z H l vs
  | d => Rep G Z H d v
theorem Rep.w {G : Gc} {Z : Addr → Prop} {H : Hp} {d : D} {v : V} (h : Rep G Z H d v) : RepW G Z H d v := by
  cases d with
  | lst l => obtain ⟨a, vs, e, _, t, r⟩ := h; exact ⟨a, vs, e, t, r⟩
  | dct ks l => obtain ⟨a, vs, e, _, t, k, r⟩ := h; exact ⟨a, vs, e, t, k, r⟩
  | obj c ks l => obtain ⟨a, dx, vs, e, _, t, k, r⟩ := h; exact ⟨a, dx, vs, e, t, k, r⟩
  | _ => exact h
/-- an exception's class and its own dict -/
def ExRep (G : Gc) (Z : Addr → Prop) (H : Hp) (e : Ex) (c : Value) (od : Option Addr) : Prop :=
  c = .ref (G.cm e.cls) ∧ ∃ d vs, od = some d ∧ H d = some (.xd (fKeys e.ks vs)) ∧ e.ks.length = vs.length ∧ RepL G Z H e.vs vs
def isOwn (ρ : DEnv) (i : Nat) : Prop := ∃ d, ρ[i]? = some (some (.own d)) ∨ ρ[i]? = some (some (.slf d)) ∨ ρ[i]? = some (some (.gho d))
def Zo (Ze O : Addr → Prop) (a : Addr) : Prop := Ze a ∨ O a
/-- a field of the object under construction -/
def RepG (G : Gc) (Z : Addr → Prop) (α : Nat → Addr) (ρ : DEnv) (H : Hp) (d : D) (v : V) : Prop := match d with
  | .gst j => v = .ref (α j) ∧ ∃ d', ρ[j]? = some (some (.gho d'))
  | d => Rep G Z H d v
def RepGL (G : Gc) (Z : Addr → Prop) (α : Nat → Addr) (ρ : DEnv) (H : Hp) : List D → List V → Prop
  | [], vs => vs = []
  | d :: ds, vs => ∃ v r, vs = v :: r ∧ RepG G Z α ρ H d v ∧ RepGL G Z α ρ H ds r
/-- the context of a def's reading: Ze what may not be leaned on, sa the object under construction, E what is wanted of an exception -/
structure Cy where
  G : Gc
  Ze : Addr → Prop
  sa : Addr
  E : WX
  lv : Nat
  n : Nat
  ca : Bool
  pt : Nat → V
/-- the names that are pinned to their pointers: what they hold is hidden, or may be read -/
def PtrOk (Y : Cy) (O : Addr → Prop) (ρ : DEnv) (σ : St) (H : Hp) : Prop := (∀ (i : Nat), ρ[i]? = some (some Slot.ptr) → σ[i]? = some (some (Y.pt i))) ∧ ∀ (i : Nat) (d : D), ρ[i]? = some (some (Slot.pin d)) → σ[i]? = some (some (Y.pt i)) ∧ Rep Y.G (Zo Y.Ze O) H d (Y.pt i)
theorem PtrOk.to {Y Y' : Cy} {O O' : Addr → Prop} {ρ ρ' : DEnv} {σ σ' : St} {H H' : Hp} (h : PtrOk Y O ρ σ H) (r : ∀ d v, Rep Y.G (Zo Y.Ze O) H d v → Rep Y'.G (Zo Y'.Ze O') H' d v) (k : ∀ (i : Nat) (x : Slot), ρ'[i]? = some (some x) → (x = .ptr ∨ ∃ d, x = .pin d) → ρ[i]? = some (some x) ∧ σ'[i]? = σ[i]?) (hp : Y'.pt = Y.pt := by rfl) : PtrOk Y' O' ρ' σ' H' :=
  ⟨fun i e => by obtain ⟨a, b⟩ := k i _ e (.inl rfl); rw [b, hp]; exact h.1 i a, fun i d e => by obtain ⟨a, b⟩ := k i _ e (.inr ⟨d, rfl⟩); rw [b, hp]; exact ⟨(h.2 i d a).1, r _ _ (h.2 i d a).2⟩⟩
theorem PtrOk.m {Y Y' : Cy} {O O' : Addr → Prop} {ρ : DEnv} {σ : St} {H H' : Hp} (h : PtrOk Y O ρ σ H) (r : ∀ d v, Rep Y.G (Zo Y.Ze O) H d v → Rep Y'.G (Zo Y'.Ze O') H' d v) (hp : Y'.pt = Y.pt := by rfl) : PtrOk Y' O' ρ σ H' := h.to r (fun _ _ e _ => ⟨e, rfl⟩) hp
structure SRa (Y : Cy) (O : Addr → Prop) (α : Nat → Addr) (ρ : DEnv) (σ : St) (H : Hp) : Prop where
  len : σ.length = Y.n ∧ Y.n ≤ ρ.length
  val : ∀ (i : Nat) (d : D), ρ[i]? = some (some (Slot.val d)) → ∃ v, σ[i]? = some (some v) ∧ Rep Y.G (Zo Y.Ze O) H d v
  own : ∀ (i : Nat) (d : D), ρ[i]? = some (some (Slot.own d)) → σ[i]? = some (some (.ref (α i))) ∧ ¬ Y.Ze (α i) ∧ RepW Y.G (Zo Y.Ze O) H d (.ref (α i))
  slf : ∀ (i : Nat) (d : D), ρ[i]? = some (some (Slot.slf d)) → σ[i]? = some (some (.ref (α i))) ∧ α i = Y.sa ∧ ∃ c ks l dx vs, d = .obj c ks l ∧ H (α i) = some (.ins (Y.G.cm c) dx (fKeys ks vs)) ∧ (ks.length = vs.length ∧ OkO Y.G c ks) ∧ RepGL Y.G (Zo Y.Ze O) α ρ H l vs
  gho : ∀ (i : Nat) (d : D), ρ[i]? = some (some (Slot.gho d)) → RepW Y.G (Zo Y.Ze O) H d (.ref (α i)) ∧ Y.n ≤ i
  inj : ∀ (i j : Nat), isOwn ρ i → isOwn ρ j → α i = α j → i = j
  oeq : ∀ a, O a ↔ ∃ i, isOwn ρ i ∧ α i = a
  zt : ∀ a, Y.Ze a → H a ≠ none
  ot : ∀ a, O a → H a ≠ none
  ptr : PtrOk Y O ρ σ H
def SR (Y : Cy) (O : Addr → Prop) (ρ : DEnv) (σ : St) (H : Hp) : Prop := ∃ α, SRa Y O α ρ σ H
/-- what a step leaves: all but the def's own containers stand; own is what was own or is new -/
def Stp (O : Addr → Prop) (H : Hp) (O' : Addr → Prop) (H' : Hp) : Prop := (∀ a o, ¬ O a → H a = some o → H' a = some o) ∧ ∀ a, O' a → O a ∨ H a = none
section
variable {Y : Cy} {O : Addr → Prop} {ρ : DEnv} {σ : St} {H H' : Hp} {α : Nat → Addr}
theorem SR.zt (h : SR Y O ρ σ H) : ∀ a, Zo Y.Ze O a → H a ≠ none := fun a z => let ⟨_, h⟩ := h; z.elim (h.zt a) (h.ot a)
end
def EPost (Y : Cy) (O : Addr → Prop) (σ : St) (H : Hp) (Q : VK) : R D → Prop
  | .ok d => ∀ v H', Same H H' → Rep Y.G (Zo Y.Ze O) H' d v → Q v H'
  | .ex e => ∀ c od H', Same H H' → ExRep Y.G (Zo Y.Ze O) H' e c od → Y.E c od σ H'
  | .no => False
def EPostW (Y : Cy) (O : Addr → Prop) (σ : St) (H : Hp) (Q : VK) : R D → Prop
  | .ok d => ∀ v H', Same H H' → RepW Y.G (Zo Y.Ze O) H' d v → Q v H'
  | .ex e => ∀ c od H', Same H H' → ExRep Y.G (Zo Y.Ze O) H' e c od → Y.E c od σ H'
  | .no => False
def tD (Y : Cy) (f : DE) : TE := fun σ H Q => ∃ O ρ, SR Y O ρ σ H ∧ EPost Y O σ H Q (f ρ)
def tDw (Y : Cy) (f : DE) : TE := fun σ H Q => ∃ O ρ, SR Y O ρ σ H ∧ EPostW Y O σ H Q (f ρ)
def SPost (Y : Cy) (O : Addr → Prop) (H : Hp) (N : Ends) : R Out → Prop
  | .ok (.nx ρ) => ∀ O' σ' H', Stp O H O' H' → SR Y O' ρ σ' H' → N.nx σ' H'
  | .ok (.bk ρ) => ∀ O' σ' H', Stp O H O' H' → SR Y O' ρ σ' H' → N.bk σ' H'
  | .ok (.ct ρ) => ∀ O' σ' H', Stp O H O' H' → SR Y O' ρ σ' H' → N.ct σ' H'
  | .ok (.rt d ρ) => ∀ O' σ' H' v, Stp O H O' H' → SR Y O' ρ σ' H' → Rep Y.G (Zo Y.Ze O') H' d v → N.rt v H'
  | .ok (.xx e ρ) => ∀ O' σ' H' c od, Stp O H O' H' → SR Y O' ρ σ' H' → ExRep Y.G (Zo Y.Ze O') H' e c od → Y.E c od σ' H'
  | .ex _ => False
  | .no => False
structure RoomL (k : Nat) (A : Around) : Prop where
  dp : A.depth + 3 * k + 5 < recursionLimit
  un : A.units + 16 * k + 200 < cLine
structure Lk (X : Cx) (Y : Cy) : Prop where
  K : X.K = Y.G.K
  ln : X.N.length = Y.n
  tk : Takes X Y.E
  rm : RoomL Y.lv X.A
  hd : Y.ca = true → X.A.handled = none
  nd : X.N.Nodup
  po : PassesOwn (model X.prog X.w) X.A X.env X.xe
  calm : Y.ca = true → X.calm = true
def PD (X : Cx) (Y : Cy) (e : Expr) (f : DE) : Prop := Lk X Y → PE X e (tD Y f)
def PDw (X : Cx) (Y : Cy) (e : Expr) (f : DE) : Prop := Lk X Y → PE X e (tDw Y f)
theorem impPE {X : Cx} {e : Expr} {t t' : TE} (h : PE X e t) (i : ∀ σ H Q, t' σ H Q → t σ H Q) : PE X e t' := ⟨fun pins s σ H Q I q => h.run pins s σ H Q I (i σ H Q q)⟩
theorem EPost.w {Y : Cy} {O : Addr → Prop} {σ : St} {H : Hp} {Q : VK} {r : R D} (h : EPostW Y O σ H Q r) : EPost Y O σ H Q r := by
  cases r with
  | ok d => exact fun v H' s q => h v H' s q.w
  | ex e => exact h
  | no => exact h
theorem PD.w {X : Cx} {Y : Cy} {e : Expr} {f : DE} (h : PD X Y e f) : PDw X Y e f := fun k => impPE (h k) fun σ H Q ⟨O, ρ, s, q⟩ => ⟨O, ρ, s, EPost.w q⟩
end Tw

set_option maxHeartbeats 2000000
namespace Tw
open PySem PySem.Spec L2
open PyProof.Rows hiding St
end Tw

set_option maxHeartbeats 2000000
namespace Tw
open PySem PySem.Spec L2
open PyProof.Rows hiding St
end Tw

set_option maxHeartbeats 2000000
namespace Tw
open PySem PySem.Spec L2
open PyProof.Rows hiding St
end Tw

set_option maxHeartbeats 2000000
namespace Tw
open PySem PySem.Spec L2
open PyProof.Rows hiding St
section
variable {X : Cx} {Y : Cy} {a b c e : Expr} {fa fb fc : DE} {pos p p2 : Pos} {x : Str} {id T : String}
theorem CallR.or {f : Value} {r r' : List V → Hp → VK → Prop} (h : CallR X f r) (h' : CallR X f r') : CallR X f (fun xs H Q => r xs H Q ∨ r' xs H Q) := by
  intro pins s σ H xs us Q I rx q
  rcases q with q | q
  · exact h pins s σ H xs us Q I rx q
  · exact h' pins s σ H xs us Q I rx q
end
end Tw

namespace Tw
open PySem
end Tw

set_option maxHeartbeats 2000000
namespace Tw
open PySem PySem.Spec L2
open PyProof.Rows hiding St
end Tw

set_option maxHeartbeats 2000000
namespace Tw
open PySem PySem.Spec L2
open PyProof.Rows hiding St
section
variable {Y : Cy} {O : Addr → Prop} {ρ : DEnv} {σ : L2.St} {H H' : Hp} {α : Nat → Addr}
theorem set_at {i j : Nat} {x : Option Slot} {y : Option Slot} (h : (ρ.set i x)[j]? = some y) : (j = i ∧ y = x) ∨ (j ≠ i ∧ ρ[j]? = some y) := by
  by_cases e : j = i
  · subst e
    have hl : j < (ρ.set j x).length := (List.getElem?_eq_some_iff.mp h).1
    rw [List.length_set] at hl
    rw [List.getElem?_set_self hl] at h
    exact .inl ⟨rfl, (Option.some.inj h).symm⟩
  · rw [List.getElem?_set_ne (Ne.symm e)] at h
    exact .inr ⟨e, h⟩
theorem isOwn_set {i j : Nat} {x : Option Slot} (h : isOwn (ρ.set i x) j) : (j = i ∧ ∃ d, x = some (.own d) ∨ x = some (.slf d) ∨ x = some (.gho d)) ∨ (j ≠ i ∧ isOwn ρ j) := by
  obtain ⟨d, h⟩ := h
  rcases h with h | h | h
  all_goals
    rcases set_at h with ⟨e, q⟩ | ⟨e, q⟩
  · exact .inl ⟨e, d, .inl q.symm⟩
  · exact .inr ⟨e, d, .inl q⟩
  · exact .inl ⟨e, d, .inr (.inl q.symm)⟩
  · exact .inr ⟨e, d, .inr (.inl q)⟩
  · exact .inl ⟨e, d, .inr (.inr q.symm)⟩
  · exact .inr ⟨e, d, .inr (.inr q)⟩
theorem RepG.weak {G : Gc} {Z Z' : Addr → Prop} {ρ ρ' : DEnv} (z : ∀ a, Z' a → Z a) (g : ∀ (j : Nat) d, ρ[j]? = some (some (.gho d)) → ∃ d', ρ'[j]? = some (some (.gho d'))) {d : D} {v : V} (h : RepG G Z α ρ H d v) : RepG G Z' α ρ' H d v := by
  cases d with
  | gst j => obtain ⟨e, d', k⟩ := h; exact ⟨e, g j d' k⟩
  | _ => exact Rep.weak z h
theorem RepGL.weak {G : Gc} {Z Z' : Addr → Prop} {ρ ρ' : DEnv} (z : ∀ a, Z' a → Z a) (g : ∀ (j : Nat) d, ρ[j]? = some (some (.gho d)) → ∃ d', ρ'[j]? = some (some (.gho d'))) : ∀ {ds : List D} {vs : List V}, RepGL G Z α ρ H ds vs → RepGL G Z' α ρ' H ds vs
  | [], vs, h => h
  | d :: ds, vs, h => by
    obtain ⟨v, r, e, h1, h2⟩ := h
    exact ⟨v, r, e, RepG.weak z g h1, RepGL.weak z g h2⟩
theorem RepW.weak {G : Gc} {Z Z' : Addr → Prop} (z : ∀ a, Z' a → Z a) {d : D} {v : V} (h : RepW G Z H d v) : RepW G Z' H d v := by
  cases d with
  | lst l => obtain ⟨a, vs, e, t, r⟩ := h; exact ⟨a, vs, e, t, r.weak z⟩
  | dct ks l => obtain ⟨a, vs, e, t, k, r⟩ := h; exact ⟨a, vs, e, t, k, r.weak z⟩
  | obj c ks l => obtain ⟨a, dx, vs, e, t, k, r⟩ := h; exact ⟨a, dx, vs, e, t, k, r.weak z⟩
  | _ => exact Rep.weak z h
def notP : Option Slot → Bool
  | some .ptr => false
  | some (.pin _) => false
  | _ => true
theorem ptrA {Y : Cy} {O O' : Addr → Prop} {ρ : DEnv} {σ : L2.St} {H H' : Hp} {k : Nat} {x : Option Slot} (h : PtrOk Y O ρ σ H) (hx : notP x = true) (r : ∀ d v, Rep Y.G (Zo Y.Ze O) H d v → Rep Y.G (Zo Y.Ze O') H' d v) : PtrOk Y O' (ρ.set k x) σ H' := h.to r fun i y e hy => by
  rcases set_at e with ⟨_, q⟩ | ⟨_, q⟩
  · rcases hy with rfl | ⟨d, rfl⟩ <;> (rw [← q] at hx; cases hx)
  · exact ⟨q, rfl⟩
theorem PtrOk.no {Y : Cy} {O : Addr → Prop} {ρ : DEnv} {σ : L2.St} {H : Hp} (h : ∀ (i : Nat) (x : Slot), ρ[i]? = some (some x) → (x = .ptr ∨ ∃ d, x = .pin d) → False) : PtrOk Y O ρ σ H := ⟨fun i e => (h i _ e (.inl rfl)).elim, fun i d e => (h i _ e (.inr ⟨d, rfl⟩)).elim⟩
/-- a name that holds a value or a container of the def's is forgotten -/
theorem SR.clr {i : Nat} (s : SR Y O ρ σ H) (hi : ∃ x, ρ[i]? = some x ∧ (∀ d, x ≠ some (.slf d)) ∧ ∀ d, x ≠ some (.gho d)) : ∃ O', (∀ a, O' a → O a) ∧ SR Y O' (ρ.set i none) σ H ∧ (¬ isOwn ρ i → ∀ a, O a → O' a) := by
  obtain ⟨α, s⟩ := s
  obtain ⟨x, hx, n1, n2⟩ := hi
  have sub : ∀ j, isOwn (ρ.set i none) j → isOwn ρ j := fun j h => by
    rcases isOwn_set h with ⟨_, d, k | k | k⟩ | ⟨_, k⟩
    · cases k
    · cases k
    · cases k
    · exact k
  have zz : ∀ a, Zo Y.Ze (fun a => ∃ j, isOwn (ρ.set i none) j ∧ α j = a) a → Zo Y.Ze O a := fun a z => z.elim .inl fun ⟨j, k, e⟩ => .inr ((s.oeq a).mpr ⟨j, sub j k, e⟩)
  refine ⟨fun a => ∃ j, isOwn (ρ.set i none) j ∧ α j = a, fun a ⟨j, k, e⟩ => (s.oeq a).mpr ⟨j, sub j k, e⟩, ⟨α, ?_⟩, fun ni a h => ?_⟩
  rotate_left
  · obtain ⟨j, hj, e⟩ := (s.oeq a).mp h
    have hji : j ≠ i := fun e => ni (e ▸ hj)
    obtain ⟨d, hj⟩ := hj
    refine ⟨j, ⟨d, ?_⟩, e⟩
    rw [List.getElem?_set_ne (Ne.symm hji)]
    exact hj
  refine ⟨by rw [List.length_set]; exact s.len, fun j d e => ?_, fun j d e => ?_, fun j d e => ?_, fun j d e => ?_, fun j k hj hk e => s.inj j k (sub j hj) (sub k hk) e, fun a => Iff.rfl, s.zt, fun a ⟨j, k, e⟩ => s.ot a ((s.oeq a).mpr ⟨j, sub j k, e⟩), ptrA s.ptr rfl fun _ _ r => r.weak zz⟩
  · rcases set_at e with ⟨_, q⟩ | ⟨_, q⟩
    · cases q
    · obtain ⟨v, e1, r⟩ := s.val j d q
      exact ⟨v, e1, r.weak zz⟩
  · rcases set_at e with ⟨_, q⟩ | ⟨_, q⟩
    · cases q
    · obtain ⟨e1, n, r⟩ := s.own j d q
      exact ⟨e1, n, r.weak zz⟩
  · rcases set_at e with ⟨_, q⟩ | ⟨_, q⟩
    · cases q
    · obtain ⟨e1, n, c, ks, l, dx, vs, e2, e3, e4, r⟩ := s.slf j d q
      refine ⟨e1, n, c, ks, l, dx, vs, e2, e3, e4, r.weak zz fun k d' hk => ?_⟩
      by_cases hki : k = i
      · subst hki
        rw [hx] at hk
        exact absurd (Option.some.inj hk) (n2 d')
      · exact ⟨d', by rw [List.getElem?_set_ne (Ne.symm hki)]; exact hk⟩
  · rcases set_at e with ⟨_, q⟩ | ⟨_, q⟩
    · cases q
    · obtain ⟨r, k⟩ := s.gho j d q
      exact ⟨r.weak zz, k⟩
theorem RepW.mono {G : Gc} {Z Z' : Addr → Prop} (s : Same H H') (z : ∀ a, Z' a → Z a ∨ H a = none) {d : D} {v : V} (h : RepW G Z H d v) : RepW G Z' H' d v := by
  cases d with
  | lst l => obtain ⟨a, vs, e, t, r⟩ := h; exact ⟨a, vs, e, s _ _ t, r.mono (Same.sub s) z⟩
  | dct ks l => obtain ⟨a, vs, e, t, k, r⟩ := h; exact ⟨a, vs, e, s _ _ t, k, r.mono (Same.sub s) z⟩
  | obj c ks l => obtain ⟨a, dx, vs, e, t, k, r⟩ := h; exact ⟨a, dx, vs, e, s _ _ t, k, r.mono (Same.sub s) z⟩
  | _ => exact Rep.mono (Same.sub s) z h
theorem RepGL.mono {G : Gc} {Z Z' : Addr → Prop} {ρ ρ' : DEnv} {α' : Nat → Addr} (s : Same H H') (z : ∀ a, Z' a → Z a ∨ H a = none) (g : ∀ (j : Nat) d, ρ[j]? = some (some (.gho d)) → α' j = α j ∧ ∃ d', ρ'[j]? = some (some (.gho d'))) :
    ∀ {ds : List D} {vs : List V}, RepGL G Z α ρ H ds vs → RepGL G Z' α' ρ' H' ds vs
  | [], vs, h => h
  | d :: ds, vs, h => by
    obtain ⟨v, r, e, h1, h2⟩ := h
    refine ⟨v, r, e, ?_, RepGL.mono s z g h2⟩
    cases d with
    | gst j => obtain ⟨e, d', k⟩ := h1; obtain ⟨e2, d2⟩ := g j d' k; exact ⟨by rw [e2]; exact e, d2⟩
    | _ => exact Rep.mono (Same.sub s) z h1
end
end Tw

set_option maxHeartbeats 2000000
namespace Tw
open PySem PySem.Spec L2
open PyProof.Rows hiding St
section
variable {X : Cx} {Y : Cy} {O : Addr → Prop} {ρ : DEnv} {σ : L2.St} {H H' : Hp} {α : Nat → Addr}
theorem Stp.drop {O O' : Addr → Prop} {H : Hp} (h : ∀ a, O' a → O a) : Stp O H O' H := ⟨fun _ _ _ e => e, fun a z => .inl (h a z)⟩
/-- the old content goes -/
theorem SR.free {i : Nat} (s : SR Y O ρ σ H) (hi : ∃ x, ρ[i]? = some x ∧ (∀ d, x ≠ some (.slf d)) ∧ ∀ d, x ≠ some (.gho d)) : ∃ O', Stp O H O' H ∧ SR Y O' (ρ.set i none) σ H ∧ (ρ.set i none)[i]? = some none ∧ (∀ a, O' a → O a) ∧ (¬ isOwn ρ i → ∀ a, O a → O' a) := by
  obtain ⟨O', h, s', ho⟩ := s.clr hi
  obtain ⟨x, hx, _⟩ := hi
  exact ⟨O', Stp.drop h, s', List.getElem?_set_self (List.getElem?_eq_some_iff.mp hx).1, h, ho⟩
end
end Tw

set_option maxHeartbeats 2000000
namespace Tw
open PySem PySem.Spec L2
open PyProof.Rows hiding St
def WalkS (G : Gc) (Z : Addr → Prop) (H0 : Hp) (J : It) (l : List D) : Prop := ∀ (i : Nat) (H2 : Hp) (Z2 : Addr → Prop), Sub Z H0 H2 → (∀ a, Z2 a → Z a ∨ H0 a = none) →
  (∀ d, l[i]? = some d → J.go i H2 ∧ ∀ x H3, J.yld i H2 x H3 → Same H2 H3 ∧ Rep G Z2 H3 d x) ∧ (l.length ≤ i → J.stop i H2)
def WalkW (G : Gc) (Z : Addr → Prop) (H0 : Hp) (J : It) (l : List D) : Prop := ∀ (i : Nat) (H2 : Hp) (Z2 : Addr → Prop), Same H0 H2 → (∀ a, Z2 a → Z a ∨ H0 a = none) →
  (∀ d, l[i]? = some d → J.go i H2 ∧ ∀ x H3, J.yld i H2 x H3 → Same H2 H3 ∧ Rep G Z2 H3 d x) ∧ (l.length ≤ i → J.stop i H2)
theorem WalkS.w {G : Gc} {Z : Addr → Prop} {H0 : Hp} {J : It} {l : List D} (h : WalkS G Z H0 J l) : WalkW G Z H0 J l := fun i H2 Z2 s z => h i H2 Z2 (Same.sub s) z
def IPostS (Y : Cy) (O : Addr → Prop) (σ : L2.St) (H : Hp) (Q : It → Hp → Prop) : R (List D) → Prop
  | .ok l => ∀ J H', Same H H' → WalkS Y.G (Zo Y.Ze O) H' J l → Q J H'
  | .ex e => ∀ c od H', Same H H' → ExRep Y.G (Zo Y.Ze O) H' e c od → Y.E c od σ H'
  | .no => False
def IPostW (Y : Cy) (O : Addr → Prop) (σ : L2.St) (H : Hp) (Q : It → Hp → Prop) : R (List D) → Prop
  | .ok l => ∀ J H', Same H H' → WalkW Y.G (Zo Y.Ze O) H' J l → Q J H'
  | .ex e => ∀ c od H', Same H H' → ExRep Y.G (Zo Y.Ze O) H' e c od → Y.E c od σ H'
  | .no => False
def tDI (Y : Cy) (f : DI) : TI := fun σ H Q => ∃ O ρ, SR Y O ρ σ H ∧ IPostS Y O σ H Q (f ρ)
def tDIw (Y : Cy) (f : DI) : TI := fun σ H Q => ∃ O ρ, SR Y O ρ σ H ∧ IPostW Y O σ H Q (f ρ)
def PDI (X : Cx) (Y : Cy) (tg iter : Expr) (f : DI) : Prop := Lk X Y → PI X tg iter (tDI Y f)
def PDIw (X : Cx) (Y : Cy) (tg iter : Expr) (f : DI) : Prop := Lk X Y → PI X tg iter (tDIw Y f)
theorem impPI {X : Cx} {tg e : Expr} {t t' : TI} (h : PI X tg e t) (i : ∀ σ H Q, t' σ H Q → t σ H Q) : PI X tg e t' := ⟨fun pins s σ H Q I q => h.run pins s σ H Q I (i σ H Q q)⟩
theorem PDI.w {X : Cx} {Y : Cy} {tg e : Expr} {f : DI} (h : PDI X Y tg e f) : PDIw X Y tg e f := fun k => impPI (h k) fun σ H Q ⟨O, ρ, s, q⟩ => ⟨O, ρ, s, by
  cases e : f ρ with
  | ok l => rw [e] at q; exact fun J H' s w => q J H' s w.w
  | ex x => rw [e] at q; exact q
  | no => rw [e] at q; exact q⟩
section
variable {X : Cx} {Y : Cy} {tg e a b : Expr} {fa fb : DE} {pos p p2 : Pos}
/-- all slots but those of is stand -/
def OffS (is : List Nat) (σ σ' : L2.St) : Prop := σ'.length = σ.length ∧ ∀ j, j ∉ is → σ'[j]? = σ[j]?
theorem OffS.set {i : Nat} {σ : L2.St} {v : V} : OffS [i] σ (σ.set i (some v)) := ⟨List.length_set, fun j hj => List.getElem?_set_ne fun e => hj (by rw [e]; exact List.mem_cons_self)⟩
theorem OffS.mono {is js : List Nat} {σ σ' : L2.St} (h : OffS is σ σ') (k : ∀ i ∈ is, i ∈ js) : OffS js σ σ' := ⟨h.1, fun j hj => h.2 j fun z => hj (k j z)⟩
end
end Tw

set_option maxHeartbeats 2000000
namespace Tw
open PySem PySem.Spec L2
open PyProof.Rows hiding St
end Tw

set_option maxHeartbeats 2000000
namespace Tw
open PySem PySem.Spec L2
open PyProof.Rows hiding St
section
variable {X : Cx} {Y : Cy} {O : Addr → Prop} {ρ : DEnv} {σ : L2.St} {H : Hp} {a b e o : Expr} {fa fb : DE} {pos p p2 apos cpos pos' : Pos} {x : Str} {i : Nat}
theorem Stp.own {O : Addr → Prop} {H : Hp} {p : Addr} {o : HO} (h : O p) : Stp O H O (upd H p o) := ⟨fun a u n e => by rw [upd_ne fun q => n (by rw [q]; exact h)]; exact e, fun a z => .inl z⟩
end
end Tw

set_option maxHeartbeats 2000000
namespace Tw
open PySem PySem.Spec L2
open PyProof.Rows hiding St
theorem RepG.of {G : Gc} {Z : Addr → Prop} {α : Nat → Addr} {ρ : DEnv} {H : Hp} {d : D} {v : V} (h : Rep G Z H d v) : RepG G Z α ρ H d v := by
  cases d with
  | gst j => exact h.elim
  | _ => exact h
section
variable {P : Program} {w : World} {K : PySem.W.Frag} {mg : Str → Option Value} {base : Heap} {x qual : Str} {params : Arguments} {body : List Stmt} {scope : Scope} {dvs : List V} {kws : List (Str × V)} {f : Addr} {fd : FuncData} {N ps : List Str} {k : Nat} {G : Gc} {b : DS}
theorem ExRep.weak {G : Gc} {Z Z' : Addr → Prop} {H : Hp} {e : Ex} {c : Value} {od : Option Addr} (z : ∀ a, Z' a → Z a) (h : ExRep G Z H e c od) : ExRep G Z' H e c od := by
  obtain ⟨e1, d, us, e2, e3, e4, e5⟩ := h
  exact ⟨e1, d, us, e2, e3, e4, e5.weak z⟩
theorem RepGL.plain {G : Gc} {Z : Addr → Prop} {α : Nat → Addr} {ρ : DEnv} {H : Hp} : ∀ {l : List D} {vs : List V}, noGst l = true → RepGL G Z α ρ H l vs → RepL G Z H l vs
  | [], vs, _, h => h
  | d :: l, vs, n, h => by
    obtain ⟨v, r, e, h1, h2⟩ := h
    cases d with
    | gst j => cases n
    | _ => exact ⟨v, r, e, h1, RepGL.plain n h2⟩
end
end Tw

set_option maxHeartbeats 2000000
namespace Tw
open PySem PySem.Spec L2
open PyProof.Rows hiding St
abbrev FrB := PySem.W.Frag → Bool
def obsT (fb : List FrB) (fa : List He.Fa) (fn : List He5.DefA) (K : PySem.W.Frag) : He.AlD := ((fb.all fun f => f K) && ((fa.all fun f => f.ok K) && fn.all fun d => d.ok K), fn.map fun d => He5.fnA K (d.at_ K))
def valT (fn : List He5.DefA) : He.AlD := (true, fn.map He5.DefA.val)
def SaysT (fb : List FrB) (fa : List He.Fa) (fn : List He5.DefA) (K : PySem.W.Frag) : Prop := obsT fb fa fn K = valT fn
section
variable {fb : List FrB} {fa : List He.Fa} {fn : List He5.DefA} {K : PySem.W.Frag}
theorem SaysT.all3 (c : SaysT fb fa fn K) : (fb.all fun f => f K) = true ∧ (fa.all fun f => f.ok K) = true ∧ (fn.all fun d => d.ok K) = true := by
  have z : ((fb.all fun f => f K) && ((fa.all fun f => f.ok K) && fn.all fun d => d.ok K)) = true := congrArg Prod.fst c
  obtain ⟨z1, z⟩ := Bool.and_eq_true_iff.mp z
  obtain ⟨z2, z3⟩ := Bool.and_eq_true_iff.mp z
  exact ⟨z1, z2, z3⟩
theorem SaysT.own (c : SaysT fb fa fn K) (i : Nat) {f : FrB} (h : fb[i]? = some f := by rfl) : f K = true := List.all_eq_true.mp c.all3.1 f (List.mem_of_getElem? h)
end
def cmOf (K : PySem.W.Frag) (c : String) : Addr := He.ga K (Str.ofString c)
def gAd (x : Str) (K : PySem.W.Frag) : Addr := He.ga K x
def mAd (c m : Str) (K : PySem.W.Frag) : Addr := He.ma K (He.ga K c) m
def sAd (c m : Str) (K : PySem.W.Frag) : Addr := He5.wf K (He.ga K c) "staticmethod" m
/-- a staticmethod read off its class -/
def smB (c m : Str) : FrB := fun K => decide (PySem.W.readsIn K (He.ga K c) (.type "type") = true) && (decide (PySem.W.specialIn K (.ref (He.ga K c)) "__getattribute__" = some (some (.builtin "type.__getattribute__"))) &&
  (He5.wrapB K (He.ga K c) "staticmethod" "staticmethod.__get__" m && PySem.W.keepIn K (.ref (sAd c m K))))
/-- a plain def read off its class -/
def pmB (c m : Str) : FrB := fun K => decide (PySem.W.readsIn K (He.ga K c) (.type "type") = true) && (decide (PySem.W.specialIn K (.ref (He.ga K c)) "__getattribute__" = some (some (.builtin "type.__getattribute__"))) &&
  ((match PySem.W.findCls K (.ref (He.ga K c)) (.type "type") m with
    | some (.val (.ref a)) => decide (a = mAd c m K)
    | _ => false) && PySem.W.keepIn K (.ref (mAd c m K))))
/-- exceptions of any world -/
def CXw (P : Program) : CXT := fun outer H s E e s' => ∃ w, L2.CX P w outer H s E e s'
theorem CXw.no {P : Program} {H : Hp} {s : Shared} {e : Value} {s' : Shared} (c : CXw P [] H s (fun _ _ _ => False) e s') : False := by
  obtain ⟨w, a, B, H', cls, d, _, _, _, _, _, _, _, z⟩ := c
  exact z
end Tw

set_option maxHeartbeats 2000000
namespace Tw
open PySem PySem.Spec L2
open PyProof.Rows hiding St
end Tw

set_option maxHeartbeats 2000000
namespace Tw
open PySem PySem.Spec L2
open PyProof.Rows hiding St
end Tw

set_option maxHeartbeats 2000000
namespace Tw
open PySem PySem.Spec L2
open PyProof.Rows hiding St
end Tw

set_option maxHeartbeats 2000000
namespace Tw
open PySem PySem.Spec L2
open PyProof.Rows hiding St
end Tw

set_option maxHeartbeats 2000000
namespace Tw
open PySem PySem.Spec L2
open PyProof.Rows hiding St
def oexB (c : Str) : FrB := fun K => (match K.lookup (He.ga K c) with
    | some ⟨.type t, _, .cls cd, sl⟩ => decide (t = "type") && (cd.hasDict && (!cd.hasDel && (match cd.mro, sl.toList with
      | .ref C' :: bm, [_, _, _, _, some (.builtin n), _] => decide (C' = He.ga K c) && (decide (n = "ValueError.__new__") && PySem.HandSPX.refsVE bm)
      | _, _ => false)))
    | _ => false) && (decide (PySem.W.findIn K (.ref (He.ga K c)) "__setattr__" = some (some (.builtin "object.__setattr__"))) && (decide (PySem.W.subIn K (.ref (He.ga K c)) (.type "BaseException") = some true) &&
    (decide (PySem.W.typeIn K (.ref (He.ga K c)) = some (.type "type")) && PySem.W.keepIn K (.ref (He.ga K c)))))
/-- the init's function, its cell, its code -/
def xfd (c : Str) (K : PySem.W.Frag) : Option FuncData := match K.lookup (mAd c "__init__" K) with
  | some ⟨_, _, .func fd, _⟩ => some fd
  | _ => none
abbrev FnX : Type := Option (Str × Str × Arguments × FuncBody × Scope × Addr × Addr)
structure DefX where
  cls : Str
  name : Str
  qual : Str
  params : Arguments
  body : List Stmt
  scope : Scope
def DefX.obs (d : DefX) (K : PySem.W.Frag) : FnX := (xfd d.cls K).map fun fd => (fd.name, fd.qualname, fd.params, fd.body, fd.scope, fd.globals, fd.builtins)
def DefX.val (d : DefX) : FnX := some (d.name, d.qual, d.params, .stmts d.body, d.scope, mainGlobals, builtinsNs)
/-- all but the rows of the text -/
def xcB (P : Program) (c : Str) (qual : Str) : FrB := fun K => (match xfd c K with
    | some fd => (match fd.closure, fd.code, fd.defaults with
      | [(x, cc)], .ref cda, .none => decide (x = ("__class__" : Str)) && (PySem.W.codeIn K (.ref cda) qual && ((match K.lookup cc with
          | some ⟨_, _, .cell (some (.ref D)), _⟩ => decide (D = He.ga K c)
          | _ => false) && (match K.lookup cda with
          | some ⟨_, _, .fields vs, _⟩ => (match (vs[2]? : Option Value) with
            | some (Value.str file _) => ((P.main.file : Str) == file)
            | _ => false)
          | _ => false)))
      | _, _, _ => false)
    | none => false) && ((PySem.W.clsIn K (He.ga K c)).isSome && (decide (PySem.W.mroIn K (He.ga K c) (.ref (He.ga K c)) = some true) && (decide (PySem.W.nsIn K cStatics "thirdparty.any" = some none) &&
    (decide (PySem.W.ks_superIn K (He.ga K c) (He.ga K c) "__init__" = some (some (.builtin "ValueError.__init__"))) && (decide (PySem.W.subIn K (.ref (He.ga K c)) (.type "ValueError") = some true) &&
    (decide (PySem.W.findIn K (.ref (He.ga K c)) "__init__" = some (some (.ref (mAd c "__init__" K)))) && decide (PySem.W.typeIn K (.ref (mAd c "__init__" K)) = some (.type "function"))))))))
/-- .. and the field f is no attribute of the class -/
def xnB (c f : Str) : FrB := fun K => decide (PySem.W.findIn K (.ref (He.ga K c)) f = some none)
end Tw

set_option maxHeartbeats 2000000
namespace Tw
open PySem PySem.Spec L2
open PyProof.Rows hiding St
abbrev AlX : Type := He.AlD × List FnX
def obsX (fb : List FrB) (fa : List He.Fa) (fn : List He5.DefA) (fx : List DefX) (K : PySem.W.Frag) : AlX := (obsT fb fa fn K, fx.map fun d => d.obs K)
def valX (fn : List He5.DefA) (fx : List DefX) : AlX := (valT fn, fx.map DefX.val)
def SaysX (fb : List FrB) (fa : List He.Fa) (fn : List He5.DefA) (fx : List DefX) (K : PySem.W.Frag) : Prop := obsX fb fa fn fx K = valX fn fx
def obsXG (n : Nat) (fb : List FrB) (fa : List He.Fa) (fn : List He5.DefA) (fx : List DefX) (g : Addr → Option Obj) : AlX := obsX fb fa fn fx (He.frG g (He5.asA g n))
def hookX (n : Nat) (fb : List FrB) (fa : List He.Fa) (fn : List He5.DefA) (fx : List DefX) : PySem.W.Hook where
  α := AlX
  obs := fun s => obsXG n fb fa fn fx s.heap.get?
  val := fun _ => valX fn fx
  says := fun _ hp => ∃ K : PySem.W.Frag, K.In hp ∧ SaysX fb fa fn fx K
  of := fun _ _ z => ⟨_, He.frG_in, z⟩
  keeps := fun _ _ _ ⟨K, kin, z⟩ up => ⟨K, PySem.W.Frag.In.keeps kin up, z⟩
end Tw

set_option maxHeartbeats 2000000
namespace Tw
open PySem PySem.Spec L2
open PyProof.Rows hiding St
end Tw

namespace Tw
open PySem
end Tw

namespace Tw
open PySem
end Tw

namespace Tw
open PySem
/-- the program's errors stand right under HierarchyError -/
def exSub (a c : String) : Bool := a == c || (c == "HierarchyError" || c == "ValueError")
/-- isinstance of the program's objects -/
def obSub (o c : String) : Bool := o == c || ((c == "Titled" && (o == "Base" || (o == "Draft" || o == "Kind"))) || (c == "Declaring" && (o == "Draft" || o == "Kind")))
/-- a clause: the class, the place of its name, the suite -/
abbrev Hd := String × Nat × (Ex → DS)
end Tw

set_option maxHeartbeats 2000000
namespace Tw
open PySem PySem.Spec L2
open PyProof.Rows hiding St
abbrev Cl := Value × Nat × (Addr → Value → Option Addr → TS)
inductive ClsOk (X : Cx) : List ExceptHandler → List Cl → Prop
  | nil : ClsOk X [] []
  | cons {x n : Str} {c : Value} {i : Nat} {ts : Addr → Value → Option Addr → TS} {s0 : Stmt} {su : List Stmt} {np hp : Pos} {hs : List ExceptHandler} {l : List Cl} (hc : Names X x c) (hi : X.N[i]? = some n) (hl : X.env.kindOf n = some .local)
      (h : ∀ (a : Addr) (oe : Obj) (cls : Value) (d : Option Addr) (pn : List (Addr × Obj)), Zc cls d oe → (∃ vs, oe.data = .fields vs) → PSs (X.suite a ((a, oe) :: pn)) (s0 :: su) (ts a cls d)) (r : ClsOk X hs l) :
      ClsOk X (.ExceptHandler (some (.Name x np)) (some n) (s0 :: su) hp :: hs) ((c, i, ts) :: l)
end Tw

set_option maxHeartbeats 2000000
namespace Tw
open PySem PySem.Spec L2
open PyProof.Rows hiding St
/-- a suite's constants: the error, its object, its dict, its name's place -/
structure Sc where
  e : Ex
  a : Addr
  dd : Addr
  i : Nat
structure XAt (Y : Cy) (S : Sc) (O : Addr → Prop) (σ : L2.St) (H : Hp) : Prop where
  sl : σ[S.i]? = some (some (.ref S.a))
  xd : ∃ vs, H S.dd = some (.xd (fKeys S.e.ks vs)) ∧ S.e.ks.length = vs.length ∧ RepL Y.G (Zo Y.Ze O) H S.e.vs vs
def tE (Y : Cy) (S : Sc) (f : DE) : TE := fun σ H Q => ∃ O ρ, SR Y O ρ σ H ∧ XAt Y S O σ H ∧ EPost Y O σ H Q (f ρ)
def tEw (Y : Cy) (S : Sc) (f : DE) : TE := fun σ H Q => ∃ O ρ, SR Y O ρ σ H ∧ XAt Y S O σ H ∧ EPostW Y O σ H Q (f ρ)
def tES (Y : Cy) (S : Sc) (F : DS) : TS := fun N σ H => ∃ O ρ, SR Y O ρ σ H ∧ XAt Y S O σ H ∧ SPost Y O H N (F ρ)
def PDe (X : Cx) (Y : Cy) (S : Sc) (e : Expr) (f : DE) : Prop := Lk X Y → PE X e (tE Y S f)
def PDew (X : Cx) (Y : Cy) (S : Sc) (e : Expr) (f : DE) : Prop := Lk X Y → PE X e (tEw Y S f)
def PDeSs (X : Cx) (Y : Cy) (S : Sc) (st : List Stmt) (F : DS) : Prop := Lk X Y → PSs X st (tES Y S F)
section
variable {X : Cx} {Y : Cy} {S : Sc} {a b c e : Expr} {es : List Expr} {fa fb : DE} {fs : DA} {ga gb : DT} {G1 G2 F : DS} {st : Stmt} {rest A B : List Stmt} {pos p p2 : Pos} {O : Addr → Prop} {ρ : DEnv} {σ : L2.St} {H H1 : Hp}
theorem PDe.w (h : PDe X Y S e fa) : PDew X Y S e fa := fun k => impPE (h k) fun σ H Q ⟨O, ρ, s, x, q⟩ => ⟨O, ρ, s, x, EPost.w q⟩
end
end Tw

set_option maxHeartbeats 2000000
namespace Tw
open PySem PySem.Spec L2
open PyProof.Rows hiding St
def cvX (K : PySem.W.Frag) (c : String) : Value := if c = "ValueError" then .type "ValueError" else .ref (cmOf K c)
def ecB (K : PySem.W.Frag) (D : Addr) : Bool := (PySem.W.clsIn K D).isSome && (decide (PySem.W.findIn K (.ref D) "__getattribute__" = some (some (.builtin "BaseException.__getattribute__"))) && (decide (PySem.W.findIn K (.ref D) "__getattr__" = some none) && (decide (PySem.W.subIn K (.ref D) (.type "BaseException") = some true) &&
  (decide (PySem.W.findIn K (.ref D) "__class__" = some (some (.builtin "object.__class__"))) && (decide (PySem.W.specialIn K (.builtin "object.__class__") "__get__" = some (some (.builtin "getset_descriptor.__get__"))) && (decide (PySem.W.takesIn K (.builtin "object.__class__") = some true) && decide (PySem.W.mroIn K D (.type "object") = some true)))))))
def xcsB (es cs : List String) (fs : List Str) : FrB := fun K => es.all fun a => xfB K (cmOf K a) && (ecB K (cmOf K a) && ((cs.all fun c => decide (PySem.W.exmOne K (.ref (cmOf K a)) (cvX K c) = some (exSub a c)) && decide (PySem.W.kitOne K (.ref (cmOf K a)) (cvX K c) = some (exSub a c))) &&
  fs.all fun f => decide (PySem.W.findIn K (.ref (cmOf K a)) f = some none)))
/-- the context of an except suite -/
def SuOk (X : Cx) (Y : Cy) (S : Sc) (es : List String) : Prop := ∃ (X0 : Cx) (oe : Obj) (pn : List (Addr × Obj)), X = X0.suite S.a ((S.a, oe) :: pn) ∧ Zc (.ref (Y.G.cm S.e.cls)) (some S.dd) oe ∧ (∃ vs, oe.data = .fields vs) ∧ S.e.cls ∈ es
def Cy.su (Y : Cy) : Cy := { Y with E := fun _ _ _ _ => False, ca := false }
section
variable {X : Cx} {Y : Cy} {O : Addr → Prop} {ρ : DEnv} {σ : L2.St} {H : Hp}
/-- a name that holds nothing: any value there -/
theorem SR.any {i : Nat} {x : Option V} (s : SR Y O ρ σ H) (hi : ρ[i]? = some none) : SR Y O ρ (σ.set i x) H := by
  obtain ⟨α, s⟩ := s
  have ne : ∀ {j : Nat} {y : Slot}, ρ[j]? = some (some y) → i ≠ j := fun e z => by rw [← z, hi] at e; cases e
  refine ⟨α, ⟨by rw [List.length_set]; exact s.len, fun j d e => ?_, fun j d e => ?_, fun j d e => ?_, s.gho, s.inj, s.oeq, s.zt, s.ot, s.ptr.to (fun _ _ r => r) fun j y e _ => ⟨e, List.getElem?_set_ne (ne e)⟩⟩⟩
  · rw [List.getElem?_set_ne (ne e)]; exact s.val j d e
  · rw [List.getElem?_set_ne (ne e)]; exact s.own j d e
  · rw [List.getElem?_set_ne (ne e)]; exact s.slf j d e
theorem Lk.su (k : Lk X Y) (a : Addr) (pn : List (Addr × Obj)) : Lk (X.suite a pn) Y.su :=
  ⟨k.K, k.ln, takes0, ⟨k.rm.dp, k.rm.un⟩, fun z => Bool.noConfusion z, k.nd, PassesOwn.never, fun z => Bool.noConfusion z⟩
inductive HdsD (X : Cx) (Y : Cy) (es : List String) : List ExceptHandler → List Hd → Prop
  | nil : HdsD X Y es [] []
  | cons {x n : Str} {c : String} {i : Nat} {fs : Ex → DS} {s0 : Stmt} {su : List Stmt} {np hp : Pos} {hs : List ExceptHandler} {hds : List Hd} (hc : Names X x (.ref (Y.G.cm c))) (hi : X.N[i]? = some n) (hl : X.env.kindOf n = some .local)
      (hex : ∀ a ∈ es, PySem.W.exmOne X.K (.ref (Y.G.cm a)) (.ref (Y.G.cm c)) = some (exSub a c))
      (h : ∀ (e : Ex) (a dd : Addr) (oe : Obj) (pn : List (Addr × Obj)), SuOk (X.suite a ((a, oe) :: pn)) Y.su ⟨e, a, dd, i⟩ es → PDeSs (X.suite a ((a, oe) :: pn)) Y.su ⟨e, a, dd, i⟩ (s0 :: su) (fs e))
      (r : HdsD X Y es hs hds) : HdsD X Y es (.ExceptHandler (some (.Name x np)) (some n) (s0 :: su) hp :: hs) ((c, i, fs) :: hds)
def tsOf (Y : Cy) (es : List String) (i : Nat) (fs : Ex → DS) : Addr → Value → Option Addr → TS := fun a cls d N σ H => ∃ e dd, cls = .ref (Y.G.cm e.cls) ∧ d = some dd ∧ e.cls ∈ es ∧ tES Y.su ⟨e, a, dd, i⟩ (fs e) N σ H
def clOfD (Y : Cy) (es : List String) (h : Hd) : Cl := (.ref (Y.G.cm h.1), h.2.1, tsOf Y es h.2.1 h.2.2)
theorem HdsD.ok {es : List String} (k : Lk X Y) {hs : List ExceptHandler} {hds : List Hd} (h : HdsD X Y es hs hds) : ClsOk X hs (hds.map (clOfD Y es)) := by
  induction h with
  | nil => exact .nil
  | cons hc hi hl hex h r ih =>
    refine .cons hc hi hl (fun a oe cls d pn hz hf => ⟨fun pins s σ H N I q => ?_⟩) ih
    obtain ⟨e, dd, rfl, rfl, he, q⟩ := q
    exact (h e a dd oe pn ⟨X, oe, pn, rfl, hz, hf, he⟩ (k.su a _)).run pins s σ H N I q
end
end Tw

set_option maxHeartbeats 2000000
namespace Tw
open PySem PySem.Spec L2
open PyProof.Rows hiding St
end Tw

set_option maxHeartbeats 2000000
namespace Tw
open PySem PySem.Spec L2
open PyProof.Rows hiding St
end Tw

set_option maxHeartbeats 2000000
namespace Tw
open PySem PySem.Spec L2
open PyProof.Rows hiding St
end Tw
namespace Tw
open PySem PySem.Spec L2
open PyProof.Rows hiding St
end Tw

set_option maxHeartbeats 2000000
namespace Tw
open PySem PySem.Spec L2
open PyProof.Rows hiding St
end Tw

set_option maxHeartbeats 2000000
namespace Tw
open PySem PySem.Spec L2
open PyProof.Rows hiding St
end Tw

set_option maxHeartbeats 2000000
namespace Tw
open PySem PySem.Spec L2
open PyProof.Rows hiding St
end Tw

set_option maxHeartbeats 2000000
namespace Tw
open PySem PySem.Spec L2
open PyProof.Rows hiding St
end Tw

set_option maxHeartbeats 400000
namespace Tw
open PySem PySem.Spec L2
open PyProof.Rows hiding St
def ioB (o c : String) : FrB := fun K => decide (PySem.W.findIn K (.ref (cmOf K o)) "__class__" = some (some (.builtin "object.__class__"))) && (decide (PySem.W.specialIn K (.builtin "object.__class__") "__get__" = some (some (.builtin "getset_descriptor.__get__"))) &&
  (decide (PySem.W.takesIn K (.builtin "object.__class__") = some true) && (decide (PySem.W.mroIn K (cmOf K o) (.type "object") = some true) && decide (PySem.W.kitOne K (.ref (cmOf K o)) (.ref (cmOf K c)) = some (obSub o c)))))
end Tw

set_option maxHeartbeats 2000000
namespace Tw
open PySem PySem.Spec L2
open PyProof.Rows hiding St
end Tw

set_option maxHeartbeats 2000000
namespace Tw
open PySem PySem.Spec L2
open PyProof.Rows hiding St
end Tw

set_option maxHeartbeats 2000000
namespace Tw
open PySem PySem.Spec L2
open PyProof.Rows hiding St
def GL1 (G : Gc) (Z : Addr → Prop) (β0 β1 : Addr) (H : Hp) (d : D) (v : V) : Prop := match d with
  | .gst j => (j = 12 ∧ v = .ref β0) ∨ (j = 13 ∧ v = .ref β1)
  | d => Rep G Z H d v
def GL (G : Gc) (Z : Addr → Prop) (β0 β1 : Addr) (H : Hp) : List D → List V → Prop
  | [], vs => vs = []
  | d :: ds, vs => ∃ v r, vs = v :: r ∧ GL1 G Z β0 β1 H d v ∧ GL G Z β0 β1 H ds r
/-- the object at a, its two containers at β0, β1 -/
def GAt (G : Gc) (Z : Addr → Prop) (H : Hp) (a : Addr) (s g0 g1 : D) (β0 β1 : Addr) : Prop :=
  (a ≠ β0 ∧ a ≠ β1 ∧ β0 ≠ β1) ∧ (RepW G Z H g0 (.ref β0) ∧ RepW G Z H g1 (.ref β1)) ∧ ∃ c ks l dx vs, s = .obj c ks l ∧ H a = some (.ins (G.cm c) dx (fKeys ks vs)) ∧ (ks.length = vs.length ∧ OkO G c ks) ∧ GL G Z β0 β1 H l vs
theorem RepW.sub {G : Gc} {Z Z' : Addr → Prop} {H H' : Hp} {p : Addr} {d : D} (s : Sub Z H H') (z : ∀ a, Z' a → Z a ∨ H a = none) (hp : ∀ o, H p = some o → H' p = some o) (r : RepW G Z H d (.ref p)) : RepW G Z' H' d (.ref p) := by
  cases d with
  | lst l => obtain ⟨a, vs, e, t, r⟩ := r; cases e; exact ⟨_, vs, rfl, hp _ t, r.mono s z⟩
  | dct ks l => obtain ⟨a, vs, e, t, k, r⟩ := r; cases e; exact ⟨_, vs, rfl, hp _ t, k, r.mono s z⟩
  | obj c ks l => obtain ⟨a, dx, vs, e, t, k, r⟩ := r; cases e; exact ⟨_, dx, vs, rfl, hp _ t, k, r.mono s z⟩
  | _ => exact Rep.mono s z r
end Tw

set_option maxHeartbeats 2000000
namespace Tw
open PySem PySem.Spec L2
open PyProof.Rows hiding St
section
variable {P : Program} {w : World} {K : PySem.W.Frag} {mg : Str → Option Value} {base : Heap} {x qual : Str} {params : Arguments} {body : List Stmt} {scope : Scope} {dvs : List V} {kws : List (Str × V)} {f : Addr} {fd : FuncData} {N ps : List Str} {k : Nat} {G : Gc} {b : DS}
theorem GL.weak {G : Gc} {Z Z' : Addr → Prop} {H : Hp} {β0 β1 : Addr} (z : ∀ a, Z' a → Z a) : ∀ {l : List D} {vs : List V}, GL G Z β0 β1 H l vs → GL G Z' β0 β1 H l vs
  | [], vs, h => h
  | d :: l, vs, h => by
    obtain ⟨v, r, e, k1, k2⟩ := h
    refine ⟨v, r, e, ?_, GL.weak z k2⟩
    cases d with
    | gst j => exact k1
    | _ => exact Rep.weak z k1
theorem GAt.weak {G : Gc} {Z Z' : Addr → Prop} {H : Hp} {a : Addr} {s g0 g1 : D} {β0 β1 : Addr} (z : ∀ a, Z' a → Z a) (h : GAt G Z H a s g0 g1 β0 β1) : GAt G Z' H a s g0 g1 β0 β1 := by
  obtain ⟨n, ⟨r0, r1⟩, c, ks, l, dx, us, e1, e2, e3, e4⟩ := h
  exact ⟨n, ⟨RepW.weak z r0, RepW.weak z r1⟩, c, ks, l, dx, us, e1, e2, e3, GL.weak z e4⟩
end
end Tw

set_option maxHeartbeats 2000000
namespace Tw
open PySem PySem.Spec L2
open PyProof.Rows hiding St
end Tw

set_option maxHeartbeats 2000000
namespace Tw
open PySem PySem.Spec L2
open PyProof.Rows hiding St
/-- the keyword-only default of the name x of the method m of c -/
def kwAd (c m x : Str) (K : PySem.W.Frag) : Addr := match K.lookup (mAd c m K) with
  | some ⟨_, _, .func fd, _⟩ => (match fd.kwdefaults with
    | .ref D => (match PySem.W.nsIn K D x with
      | some (some (.ref a)) => a
      | _ => 0)
    | _ => 0)
  | _ => 0
/-- there stands an empty tuple -/
def emB (p : PySem.W.Frag → Addr) : FrB := fun K => match K.lookup (p K) with
  | some ⟨.type t, _, .seq its _, _⟩ => t == "tuple" && its.isEmpty
  | _ => false
end Tw

set_option maxHeartbeats 2000000
namespace Tw
open PySem PySem.Spec L2
open PyProof.Rows hiding St
end Tw

set_option maxHeartbeats 2000000
namespace Tw
open PySem PySem.Spec L2
open PyProof.Rows hiding St
end Tw

set_option maxHeartbeats 0
namespace Tw
open PySem PySem.Spec PyProof.Rows L2
def top (i : Nat) : Stmt := PySem.Challenge.pw_twicebased_k05_draft.main.body.getD i (.Pass ⟨0, 0, 0, 0⟩)
abbrev PGm : Program := PySem.Challenge.pw_twicebased_k05_draft
def fb : List FrB := [fun K => decide (mAd "Draft" "declares" K = mAd "Declaring" "declares" K), fun K => decide (mAd "Draft" "is_static" K = mAd "Declaring" "is_static" K), smB "Titled" "is_word", pmB "Declaring" "__init__", pmB "Titled" "__init__", emB (kwAd "Draft" "__init__" "bases"), emB (kwAd "Draft" "__init__" "names"), emB (kwAd "Draft" "__init__" "statics"), xcsB ["DuplicateBase", "DuplicateName", "InvalidWord"] ["DuplicateBase", "DuplicateName", "HierarchyError", "InvalidWord", "ValueError"] ["name", "title", "word"], ioB "Draft" "Declaring", ioB "Draft" "Titled", xcB PGm "DuplicateBase" "DuplicateBase.__init__", oexB "DuplicateBase", xnB "DuplicateBase" "title", xcB PGm "DuplicateName" "DuplicateName.__init__", oexB "DuplicateName", xnB "DuplicateName" "name", xcB PGm "InvalidWord" "InvalidWord.__init__", oexB "InvalidWord", xnB "InvalidWord" "word"]
def fx : List DefX := [⟨"DuplicateBase", "__init__", "DuplicateBase.__init__", defArgs (L2.inClass (top 5) 0), defBody (L2.inClass (top 5) 0), defScope (L2.inClass (top 5) 0)⟩, ⟨"DuplicateName", "__init__", "DuplicateName.__init__", defArgs (L2.inClass (top 4) 0), defBody (L2.inClass (top 4) 0), defScope (L2.inClass (top 4) 0)⟩, ⟨"InvalidWord", "__init__", "InvalidWord.__init__", defArgs (L2.inClass (top 3) 0), defBody (L2.inClass (top 3) 0), defScope (L2.inClass (top 3) 0)⟩]
def fn0 : List He5.DefA := [⟨gAd "_law_row", "_law_row", "_law_row", defArgs (top 16), defBody (top 16), defScope (top 16), [], []⟩,
  ⟨gAd "_law_cell", "_law_cell", "_law_cell", defArgs (top 15), defBody (top 15), defScope (top 15), [], []⟩,
  ⟨gAd "_law_word", "_law_word", "_law_word", defArgs (top 17), defBody (top 17), defScope (top 17), [], []⟩,
  ⟨gAd "_law_parts", "_law_parts", "_law_parts", defArgs (top 19), defBody (top 19), defScope (top 19), [], []⟩,
  ⟨gAd "_law_is_word", "_law_is_word", "_law_is_word", defArgs (top 18), defBody (top 18), defScope (top 18), [], []⟩,
  ⟨gAd "_law_due", "_law_due", "_law_due", defArgs (top 20), defBody (top 20), defScope (top 20), [], []⟩,
  ⟨sAd "Titled" "is_word", "is_word", "Titled.is_word", defArgs (L2.inClass (top 10) 1), defBody (L2.inClass (top 10) 1), defScope (L2.inClass (top 10) 1), [], []⟩,
  ⟨mAd "Titled" "__init__", "__init__", "Titled.__init__", defArgs (L2.inClass (top 10) 0), defBody (L2.inClass (top 10) 0), defScope (L2.inClass (top 10) 0), [], []⟩,
  ⟨mAd "Base" "__init__", "__init__", "Base.__init__", defArgs (L2.inClass (top 11) 0), defBody (L2.inClass (top 11) 0), defScope (L2.inClass (top 11) 0), [.bl false], []⟩,
  ⟨mAd "Declaring" "__init__", "__init__", "Declaring.__init__", defArgs (L2.inClass (top 12) 0), defBody (L2.inClass (top 12) 0), defScope (L2.inClass (top 12) 0), [], []⟩,
  ⟨mAd "Draft" "__init__", "__init__", "Draft.__init__", defArgs (L2.inClass (top 13) 0), defBody (L2.inClass (top 13) 0), defScope (L2.inClass (top 13) 0), [], [("names", .adr (kwAd "Draft" "__init__" "names")), ("statics", .adr (kwAd "Draft" "__init__" "statics")), ("bases", .adr (kwAd "Draft" "__init__" "bases"))]⟩,
  ⟨mAd "Declaring" "declares", "declares", "Declaring.declares", defArgs (L2.inClass (top 12) 1), defBody (L2.inClass (top 12) 1), defScope (L2.inClass (top 12) 1), [], []⟩,
  ⟨mAd "Declaring" "is_static", "is_static", "Declaring.is_static", defArgs (L2.inClass (top 12) 2), defBody (L2.inClass (top 12) 2), defScope (L2.inClass (top 12) 2), [], []⟩,
  ⟨gAd "_law_shows", "_law_shows", "_law_shows", defArgs (top 21), defBody (top 21), defScope (top 21), [], []⟩,
  ⟨gAd "_law_asked", "_law_asked", "_law_asked", defArgs (top 22), defBody (top 22), defScope (top 22), [], []⟩,
  ⟨gAd "law", "law", "law", defArgs (top 23), defBody (top 23), defScope (top 23), [], []⟩]
def fa0 : List He.Fa := [.free "ValueError", .free "abs", .free "all", .free "bool", .free "int", .free "isinstance", .free "len", .free "list", .free "range", .free "sum", .free "super", .free "tuple", .str "DIGITS" "0123456789", .str "LETTERS" "ABCDEFGHIJKLMNOPQRSTUVWXYZabcdefghijklmnopqrstuvwxyz", .int "LONGEST" 8, .glo "Base", .glo "Declaring", .glo "Draft", .glo "DuplicateBase", .glo "DuplicateName", .glo "HierarchyError", .glo "InvalidWord", .glo "Titled", .glo "_law_asked", .glo "_law_cell", .glo "_law_due", .glo "_law_is_word", .glo "_law_parts", .glo "_law_row", .glo "_law_shows"]
def fa1 : List He.Fa := [.glo "_law_word", .glo "law", .cls "Base", .noat "Base" "title", .noat "Base" "is_shared", .cls "Draft", .noat "Draft" "title", .noat "Draft" "names", .noat "Draft" "statics", .noat "Draft" "bases", .mkr "Base", .mkr "Draft", .meth "Draft" "declares", .meth "Draft" "is_static"]
def nm0 : List Str := ["_wall", "HierarchyError", "InvalidWord", "DuplicateName", "DuplicateBase", "LETTERS", "DIGITS", "LONGEST", "Titled", "Base", "Declaring", "Draft", "_law_cell", "_law_row", "_law_word", "_law_is_word", "_law_parts", "_law_due", "_law_shows", "_law_asked"]
def fn : List He5.DefA := fn0
def fa : List He.Fa := fa0 ++ (fa1)
def nm : List Str := nm0
abbrev RW : PySem.W.OpenRow := PySem.W.OpenLaw.row PySem.Challenge.rw_twicebased_k05_draft
abbrev hkT : PySem.W.Hook := hookX 5 fb fa fn fx
def obT (s : PySem.W.SharedT) : AlX := obsXG 5 fb fa fn fx (HandSHeadRun.getT s)
theorem runT (w : World) : HandSHeadRun.RunEq RW (PySem.W.view RW.prog [23]) hkT obT 30000 nm w := by
  intro os
  kernel_rfl
end Tw
set_option maxRecDepth 100000
namespace Tw
open PySem
abbrev DT := DEnv → R Bool
abbrev DA := DEnv → R (List D)
abbrev DG := D → DEnv → R DEnv
def atD {α : Type} (l : List α) (i : Int) : Option α :=
  if 0 ≤ i then l[i.toNat]? else if -(l.length : Int) ≤ i then l[(i + l.length).toNat]? else none
def lookD : List Str → List D → Str → Option D
  | k :: ks, v :: vs, x => if x = k then some v else lookD ks vs x
  | _, _, _ => none
/-- the pair is put: replaced, or at the end -/
def putDk (x : Str) : List Str → List Str
  | [] => [x]
  | k :: ks => if x = k then k :: ks else k :: putDk x ks
def putDv (x : Str) (y : D) : List Str → List D → List D
  | k :: ks, v :: vs => if x = k then y :: vs else v :: putDv x y ks vs
  | _, _ => [y]
/-- a dict's pair is put: replaced wherever it stands, or at the end -/
def repDv (x : Str) (y : D) : List Str → List D → List D
  | k :: ks, v :: vs => (if k = x then y else v) :: repDv x y ks vs
  | _, _ => []
def dPutK (x : Str) (ks : List Str) : List Str := if x ∈ ks then ks else ks ++ [x]
def dPutV (x : Str) (y : D) (ks : List Str) (vs : List D) : List D := if x ∈ ks then repDv x y ks vs else vs ++ [y]
def sIxD (n : Nat) (d : Nat) : Option Int → Nat
  | none => d
  | some i => if i < 0 then (i + n).toNat else min i.toNat n
def cutD {α : Type} (l : List α) (lo hi : Option Int) : List α := (l.drop (sIxD l.length 0 lo)).take (sIxD l.length l.length hi - sIxD l.length 0 lo)
def strOkD (x : Str) : Bool := x.cps.all (· < 0x110000)
mutual
/-- Python's == of data -/
def deq : D → D → Bool
  | .non, .non => true
  | .bl a, .bl b => a == b
  | .bl a, .int j => (if a then 1 else 0) == j
  | .int i, .bl b => i == (if b then 1 else 0)
  | .int i, .int j => i == j
  | .str a, .str b => a == b
  | .lst a, .lst b => deqL a b
  | .tup a, .tup b => deqL a b
  | _, _ => false
def deqL : List D → List D → Bool
  | [], [] => true
  | x :: xs, y :: ys => deq x y && deqL xs ys
  | _, _ => false
end
/-- data of the first kinds, texts of true signs, k deep at most -/
def shp : Nat → D → Bool
  | _, .non => true
  | _, .bl _ => true
  | _, .int _ => true
  | _, .str s => strOkD s
  | 0, _ => false
  | k + 1, .lst l => l.all (shp k)
  | k + 1, .tup l => l.all (shp k)
  | _, _ => false
def flatD : D → Bool
  | .non => true | .bl _ => true | .int _ => true | .str _ => true | _ => false
def lineD : Nat := 16777216
theorem w64_of {n : Int} (h : -1000000000000000000 < n) (k : n < 1000000000000000000) : w64 n := by unfold w64; omega
def oAdd : D → D → Option D
  | .int i, .int j => some (.int (i + j))
  | .str a, .str b => if a.length + b.length ≤ lineD then some (.str (a ++ b)) else none
  | .lst a, .lst b => if a.length + b.length ≤ lineD then some (.lst (a ++ b)) else none
  | .tup a, .tup b => if a.length + b.length ≤ lineD then some (.tup (a ++ b)) else none
  | _, _ => none
def oSub : D → D → Option D
  | .int i, .int j => some (.int (i - j))
  | _, _ => none
def repS (s : Str) : Nat → Str
  | 0 => Str.empty
  | n + 1 => s ++ repS s n
def oMul : D → D → Option D
  | .int i, .int j => if w64 i ∨ w64 j then some (.int (i * j)) else none
  | .lst a, .int k => if -(2 ^ 63) ≤ k ∧ k < 2 ^ 63 ∧ a.length * k.toNat ≤ lineD then some (.lst ((List.replicate k.toNat a).flatten)) else none
  | .str s, .int k => if 0 ≤ k ∧ k ≤ 1 then some (.str (repS s k.toNat)) else none
  | _, _ => none
def oFdiv : D → D → Option D
  | .int i, .int j => if 0 < j ∧ j < 1073741824 then some (.int (i / j)) else none
  | _, _ => none
def oMod : D → D → Option D
  | .int i, .int j => if 0 < j then some (.int (i % j)) else none
  | _, _ => none
def oPow : D → D → Option D
  | .int i, .int j => if 0 ≤ j ∧ j ≤ 1000000 ∧ i.natAbs < 2 ^ 64 then some (.int (i ^ j.toNat)) else none
  | _, _ => none
def oLt : D → D → Option D
  | .int i, .int j => some (.bl (decide (i < j)))
  | _, _ => none
def oLe : D → D → Option D
  | .int i, .int j => some (.bl (decide (i ≤ j)))
  | _, _ => none
def oGt : D → D → Option D
  | .int i, .int j => some (.bl (decide (j < i)))
  | _, _ => none
def oGe : D → D → Option D
  | .int i, .int j => some (.bl (decide (j ≤ i)))
  | _, _ => none
/-- pairs of flat data that are compared at once -/
def scalD : D → D → Bool
  | .non, .non => true | .non, .int _ => true | .int _, .non => true | .non, .bl _ => true | .bl _, .non => true | .non, .str _ => true | .str _, .non => true
  | .int _, .int _ => true | .bl _, .bl _ => true | .str _, .str _ => true
  | .int _, .str _ => true | .str _, .int _ => true | .bl _, .str _ => true | .str _, .bl _ => true
  | _, _ => false
def eqD (x y : D) : Option Bool := if scalD x y then some (deq x y) else if shp 60 x && shp 60 y then some (deq x y) else none
def oEq (x y : D) : Option D := (eqD x y).bind fun b => some (.bl b)
def oNe (x y : D) : Option D := (eqD x y).bind fun b => some (.bl (!b))
def sgnD (s : Str) : Option Nat := match s.cps.toList with
  | [c] => some c
  | _ => none
def isNonD : D → Bool
  | .non => true
  | _ => false
/-- x in y: a sign in a text; flat data in a list or tuple; any in a list; a key -/
def inD (x y : D) : Option Bool :=
  match y with
  | .str t => match x with
    | .str s => (sgnD s).map fun c => decide (c ∈ t.cps.toList)
    | _ => none
  | .lst l => if flatD x && l.all flatD then some (l.any fun y => deq y x) else if shp 60 x && l.all (shp 60) then some (l.any fun y => deq y x) else none
  | .tup l => if flatD x && l.all flatD then some (l.any fun y => deq y x) else none
  | .dct ks vs => match x with
    | .str s => some (lookD ks vs s).isSome
    | _ => none
  | _ => none
def oIn (x y : D) : Option D := (inD x y).bind fun b => some (.bl b)
def oNotIn (x y : D) : Option D := (inD x y).bind fun b => some (.bl (!b))
def oIsN (x : D) : Option D := some (.bl (isNonD x))
def oIsNotN (x : D) : Option D := some (.bl (!isNonD x))
def oIx : D → D → Option D
  | .lst l, .int i => match atD l i with | some v => some v | none => none
  | .tup l, .int i => match atD l i with | some v => some v | none => none
  | .scr l, .int i => match atD l i with | some v => some (.int v) | none => none
  | .str s, .int i => if s.length ≤ lineD then (match atD s.cps.toList i with | some c => some (.str ⟨#[c]⟩) | none => none) else none
  | .dct ks vs, .str s => match lookD ks vs s with | some v => some v | none => none
  | _, _ => none
def oSl (lo hi : Option Int) : D → Option D
  | .lst l => some (.lst (cutD l lo hi))
  | .tup l => some (.tup (cutD l lo hi))
  | .str s => if s.length ≤ lineD then some (.str ⟨(cutD s.cps.toList lo hi).toArray⟩) else none
  | _ => none
def oFld (f : Str) : D → Option D
  | .obj _ ks vs => match lookD ks vs f with | some v => some v | none => none
  | _ => none
def oNeg : D → Option D
  | .int i => some (.int (-i))
  | _ => none
def oLen : D → Option D
  | .lst l => some (.int l.length)
  | .tup l => some (.int l.length)
  | .scr l => some (.int l.length)
  | .str s => if s.length ≤ lineD then some (.int s.length) else none
  | _ => none
def oInt : D → Option D
  | .int i => some (.int i)
  | .bl b => some (.int (if b then 1 else 0))
  | _ => none
def oAbs : D → Option D
  | .int i => some (.int (if i < 0 then -i else i))
  | _ => none
def intsD : List D → Option (List Int)
  | [] => some []
  | .int i :: l => (intsD l).map (i :: ·)
  | _ :: _ => none
def blsD : List D → Option (List Bool)
  | [] => some []
  | .bl i :: l => (blsD l).map (i :: ·)
  | _ :: _ => none
def strsD : List D → Option (List Str)
  | [] => some []
  | .str i :: l => (strsD l).map (i :: ·)
  | _ :: _ => none
def oSum : D → Option D
  | .lst l => match intsD l with | some ns => some (.int ns.sum) | none => none
  | .scr ns => some (.int ns.sum)
  | _ => none
def oAll : D → Option D
  | .lst l => match blsD l with | some bs => some (.bl (bs.all id)) | none => none
  | _ => none
/-- isinstance(x, T), T a built-in class of these -/
def oIsi (t : String) : D → Option D
  | .bl _ => if t = "bool" ∨ t = "int" then some (.bl true) else if t = "str" ∨ t = "tuple" ∨ t = "list" then some (.bl false) else none
  | .int _ => if t = "int" then some (.bl true) else if t = "bool" ∨ t = "str" ∨ t = "tuple" ∨ t = "list" then some (.bl false) else none
  | .str _ => if t = "str" then some (.bl true) else if t = "bool" ∨ t = "int" ∨ t = "tuple" ∨ t = "list" then some (.bl false) else none
  | .tup _ => if t = "tuple" then some (.bl true) else if t = "bool" ∨ t = "int" ∨ t = "str" ∨ t = "list" then some (.bl false) else none
  | .lst _ => if t = "list" then some (.bl true) else if t = "bool" ∨ t = "int" ∨ t = "str" ∨ t = "tuple" then some (.bl false) else none
  | .non => if t = "bool" ∨ t = "int" ∨ t = "str" ∨ t = "tuple" ∨ t = "list" then some (.bl false) else none
  | _ => none
def oMax : D → D → Option D
  | .int i, .int j => some (.int (if j > i then j else i))
  | _, _ => none
def oList : D → Option D
  | .lst l => some (.lst l)
  | .tup l => some (.lst l)
  | _ => none
def oTuple : D → Option D
  | .lst l => some (.tup l)
  | .tup l => some (.tup l)
  | _ => none
/-- truth -/
def truD : D → Option Bool
  | .non => some false
  | .bl b => some b
  | .int i => some (i != 0)
  | .str s => if s.length ≤ lineD then some ((s.length : Int) != 0) else none
  | .lst l => some (!l.isEmpty)
  | .tup l => some (!l.isEmpty)
  | .dct ks _ => some (!ks.isEmpty)
  | _ => none
/-- what a for or a comprehension walks -/
def iterD : D → Option (List D)
  | .lst l => some l
  | .tup l => some l
  | .str s => some (s.cps.toList.map fun c => .str ⟨#[c]⟩)
  | _ => none
theorem rngOk_of {n : Int} (h : 0 ≤ n) (k : n < 1000000000) : rngOk n := by unfold rngOk; omega
def rangeD (n : Int) : List D := (List.range n.toNat).map fun i => .int (Int.ofNat i)
def eVar (i : Nat) : DE := fun ρ => match ρ[i]? with
  | some (some (.val d)) => .ok d
  | some (some (.pin d)) => .ok d
  | _ => .no
/-- a name that is only looked at (its container may be the def's own) -/
def eLook (i : Nat) : DE := fun ρ => match ρ[i]? with
  | some (some (.val d)) => .ok d
  | some (some (.own d)) => .ok d
  | some (some (.pin d)) => .ok d
  | _ => .no
def eC (d : D) : DE := fun _ => .ok d
abbrev DO := DEnv → R (Option Int)
def xNone : DO := fun _ => .ok none
def xSome (e : DE) : DO := fun ρ => (e ρ).bind fun x => match x with | .int i => .ok (some i) | _ => .no
def eSl (a : DE) (lo hi : DO) : DE := fun ρ => (a ρ).bind fun x => (lo ρ).bind fun l => (hi ρ).bind fun h => R.of (oSl l h x)
def eIf (c : DT) (a b : DE) : DE := fun ρ => (c ρ).bind fun k => if k then a ρ else b ρ
def eAnd (a b : DE) : DE := fun ρ => (a ρ).bind fun x => match x with | .bl true => b ρ | .bl false => .ok (.bl false) | _ => .no
def eOr (a b : DE) : DE := fun ρ => (a ρ).bind fun x => match x with | .bl false => b ρ | .bl true => .ok (.bl true) | _ => .no
def eNot (a : DE) : DE := fun ρ => (a ρ).bind fun x => match x with | .bl k => .ok (.bl (!k)) | _ => .no
def aNil : DA := fun _ => .ok []
def aCons (a : DE) (as : DA) : DA := fun ρ => (a ρ).bind fun x => (as ρ).bind fun xs => .ok (x :: xs)
def eCall (f : List D → R D) (as : DA) : DE := fun ρ => (as ρ).bind f
/-- o.m(..), o an object of a class of cs -/
def eMeth (cs : List String) (f : List D → R D) (o : DE) (as : DA) : DE := fun ρ => (o ρ).bind fun x => match x with
  | .obj c ks vs => if c ∈ cs then (as ρ).bind fun xs => f (.obj c ks vs :: xs) else .no
  | _ => .no
def eTup (as : DA) : DE := fun ρ => (as ρ).bind fun xs => if xs.length ≤ lineD then .ok (.tup xs) else .no
def eLst (as : DA) : DE := fun ρ => (as ρ).bind fun xs => if xs.length ≤ lineD then .ok (.lst xs) else .no
def iOf (a : DE) : DI := fun ρ => (a ρ).bind fun x => R.of (iterD x)
def rngR (x : D) : R (List D) := match x with | .int n => if rngOk n then .ok (rangeD n) else .no | _ => .no
theorem rngR_ok {n : Int} (h : rngOk n) : rngR (.int n) = .ok (rangeD n) := if_pos h
def iRange (a : DE) : DI := fun ρ => (a ρ).bind rngR
/-- a comprehension's turns; an exception within is not served -/
def compL (g : DG) (c : DT) (e : DE) (ρ : DEnv) : List D → R (List D)
  | [] => .ok []
  | x :: xs => match g x ρ with
    | .ok ρ' => match c ρ' with
      | .ok true => match e ρ' with
        | .ok y => match compL g c e ρ xs with
          | .ok ys => .ok (y :: ys)
          | _ => .no
        | _ => .no
      | .ok false => compL g c e ρ xs
      | _ => .no
    | _ => .no
/-- the block's own names, forgotten -/
def okW (vs : List Nat) (ρ : DEnv) : Bool := vs.all fun v => match ρ[v]? with
  | some none => true
  | some (some (.val _)) => true
  | _ => false
def wipD (vs : List Nat) (ρ : DEnv) : DEnv := vs.foldr (fun v r => r.set v none) ρ
def eComp (it : DI) (vs : List Nat) (g : DG) (c : DT) (e : DE) : DE := fun ρ => (it ρ).bind fun l => if l.length ≤ lineD ∧ okW vs ρ = true then (compL g c e (wipD vs ρ) l).bind fun ys => .ok (.lst ys) else .no
def tYesD : DT := fun _ => .ok true
def tVal (a : DE) : DT := fun ρ => (a ρ).bind fun x => match x with | .bl k => .ok k | _ => .no
def tTru (a : DE) : DT := fun ρ => (a ρ).bind fun x => R.of (truD x)
def tAndD (a b : DT) : DT := fun ρ => (a ρ).bind fun k => if k then b ρ else .ok false
def tOrD (a b : DT) : DT := fun ρ => (a ρ).bind fun k => if k then .ok true else b ρ
def tNotD (a : DT) : DT := fun ρ => (a ρ).bind fun k => .ok (!k)
/-- the name gets a value -/
def setV (i : Nat) (d : D) (ρ : DEnv) : R DEnv := match ρ[i]? with
  | some (some (.slf _)) => .no
  | some (some (.gho _)) => .no
  | some _ => .ok (ρ.set i (some (.val d)))
  | none => .no
def setO (i : Nat) (d : D) (ρ : DEnv) : R DEnv := match ρ[i]? with
  | some (some (.slf _)) => .no
  | some (some (.gho _)) => .no
  | some _ => .ok (ρ.set i (some (.own d)))
  | none => .no
def gVar (i : Nat) : DG := setV i
def gVars : List Nat → List D → DEnv → R DEnv
  | [], [], ρ => .ok ρ
  | i :: is, d :: ds, ρ => (setV i d ρ).bind fun ρ' => gVars is ds ρ'
  | _, _, _ => .no
def gTupD (is : List Nat) : DG := fun d ρ => match d with | .tup l => gVars is l ρ | _ => .no
def sNext : DS := fun ρ => .ok (.nx ρ)
def sBrk : DS := fun ρ => .ok (.bk ρ)
def sCnt : DS := fun ρ => .ok (.ct ρ)
def sSeq (a b : DS) : DS := fun ρ => match a ρ with
  | .ok (.nx ρ') => b ρ'
  | r => r
def sSet (i : Nat) (e : DE) : DS := fun ρ => (e ρ).st ρ fun d => (setV i d ρ).bind fun ρ' => .ok (.nx ρ')
/-- the name gets a new container of its own -/
def sOwn (i : Nat) (e : DE) : DS := fun ρ => (e ρ).st ρ fun d => (setO i d ρ).bind fun ρ' => .ok (.nx ρ')
/-- the container is given out: from here on it stands -/
def frzD (i : Nat) (ρ : DEnv) : DEnv := match ρ[i]? with
  | some (some (.own d)) => ρ.set i (some (.val d))
  | _ => ρ
def sFrz (is : List Nat) (a : DS) : DS := fun ρ => a (is.foldl (fun r i => frzD i r) ρ)
/-- names that are dead are forgotten -/
def clr1 (i : Nat) (ρ : DEnv) : DEnv := match ρ[i]? with
  | some (some (.val _)) => ρ.set i none
  | some (some (.own _)) => ρ.set i none
  | _ => ρ
def clrD (is : List Nat) (ρ : DEnv) : DEnv := is.foldl (fun r i => clr1 i r) ρ
def sClr (is : List Nat) : DS := fun ρ => .ok (.nx (clrD is ρ))
def sAsg (e : DE) (g : DG) : DS := fun ρ => (e ρ).st ρ fun d => (g d ρ).bind fun ρ' => .ok (.nx ρ')
def sDrop (e : DE) : DS := fun ρ => (e ρ).st ρ fun _ => .ok (.nx ρ)
def sRet (e : DE) : DS := fun ρ => (e ρ).st ρ fun d => .ok (.rt d ρ)
def sRetN : DS := fun ρ => .ok (.rt .non ρ)
def sIf (c : DT) (a b : DS) : DS := fun ρ => (c ρ).st ρ fun k => if k then a ρ else b ρ
def forL (g : DG) (cl : List Nat) (b : DS) : List D → DEnv → R Out
  | [], ρ => .ok (.nx ρ)
  | x :: xs, ρ => match (g x ρ).bind b with
    | .ok (.nx ρ') => forL g cl b xs (clrD cl ρ')
    | .ok (.ct ρ') => forL g cl b xs (clrD cl ρ')
    | .ok (.bk ρ') => .ok (.nx ρ')
    | r => r
def sFor (it : DI) (g : DG) (cl : List Nat) (b : DS) : DS := fun ρ => (it ρ).st ρ fun l => forL g cl b l (clrD cl ρ)
def whileL (c : DT) (cl : List Nat) (b : DS) : Nat → DEnv → R Out
  | 0, _ => .no
  | n + 1, ρ => (c ρ).st ρ fun k => if k then (match b ρ with
    | .ok (.nx ρ') => whileL c cl b n (clrD cl ρ')
    | .ok (.ct ρ') => whileL c cl b n (clrD cl ρ')
    | .ok (.bk ρ') => .ok (.nx ρ')
    | r => r) else .ok (.nx ρ)
def sWhile (n : Nat) (c : DT) (cl : List Nat) (b : DS) : DS := fun ρ => whileL c cl b n (clrD cl ρ)
/-- x.append(e), x the def's own list -/
def sApp (i : Nat) (e : DE) : DS := fun ρ => match ρ[i]? with
  | some (some (.own (.lst l))) => (e ρ).st ρ fun y => if l.length < lineD then .ok (.nx (ρ.set i (some (.own (.lst (l ++ [y])))))) else .no
  | _ => .no
def sClear (i : Nat) : DS := fun ρ => match ρ[i]? with
  | some (some (.own (.lst _))) => .ok (.nx (ρ.set i (some (.own (.lst [])))))
  | _ => .no
/-- x[k] = e, x the def's own list -/
def sPutL (i : Nat) (k e : DE) : DS := fun ρ => (e ρ).st ρ fun v => match ρ[i]? with
  | some (some (.own (.lst l))) => (k ρ).st ρ fun x => match x with
    | .int j => if 0 ≤ j ∧ j < l.length then .ok (.nx (ρ.set i (some (.own (.lst (l.set j.toNat v)))))) else .no
    | _ => .no
  | _ => .no
/-- x = y.pop(), y the def's own list -/
def sPop (i j : Nat) : DS := fun ρ => match ρ[j]? with
  | some (some (.own (.lst l))) => match l.getLast? with
    | some x => (setV i x (ρ.set j (some (.own (.lst l.dropLast))))).bind fun ρ' => .ok (.nx ρ')
    | none => .no
  | _ => .no
def sAug (i : Nat) (f : D → D → Option D) (e : DE) : DS := fun ρ => match ρ[i]? with
  | some (some (.val x)) => (e ρ).st ρ fun y => match f x y with
    | some z => (setV i z ρ).bind fun ρ' => .ok (.nx ρ')
    | none => .no
  | _ => .no
/-- self.f = e -/
def putF (f : Str) (v : D) : D → Option D
  | .obj c ks vs => if ks.length < 999 ∧ f ∈ fldOf c then some (.obj c (putDk f ks) (putDv f v ks vs)) else none
  | _ => none
def sFld (i : Nat) (f : Str) (e : DE) : DS := fun ρ => (e ρ).st ρ fun v => match ρ[i]? with
  | some (some (.slf d)) => match putF f v d with
    | some d' => .ok (.nx (ρ.set i (some (.slf d'))))
    | _ => .no
  | _ => .no
mutual
def noL : D → Bool
  | .lst _ => false
  | .dct _ _ => false
  | .scr _ => false
  | .gst _ => false
  | .tup l => noLs l
  | .obj _ _ l => noLs l
  | _ => true
def noLs : List D → Bool
  | [] => true
  | d :: l => noL d && noLs l
end
/-- raise cn(..), its fields fs -/
def sRaise (cn : String) (fs : List Str) (as : DA) : DS := fun ρ => (as ρ).st ρ fun xs => if xs.length = fs.length then .ok (.xx ⟨cn, fs.reverse, xs.reverse⟩ ρ) else .no
def envD (n : Nat) (ds : List D) : DEnv := ds.map (fun d => some (.val d)) ++ List.replicate (n - ds.length) none
/-- a def's meaning: n names, the parameters first -/
def defD (n p : Nat) (b : DS) (ds : List D) : R D := if ds.length = p then (match b (envD n ds) with
  | .ok (.rt d _) => .ok d
  | .ok (.nx _) => .ok .non
  | .ok (.xx e _) => .ex e
  | _ => .no) else .no
/-- an __init__'s meaning, the object under construction whole at its end -/
def slfP (ρ : DEnv) (d : D) : R (D × D) := match ρ with
  | some (.slf (.obj c ks l)) :: _ => if noGst l then .ok (d, .obj c ks l) else .no
  | _ => .no
def initP (n p : Nat) (b : DS) (s : D) (ds : List D) : R (D × D) := if ds.length + 1 = p then (match b (some (.slf s) :: envD (n - 1) ds) with
  | .ok (.rt d ρ) => slfP ρ d
  | .ok (.nx ρ) => slfP ρ .non
  | .ok (.xx e _) => .ex e
  | _ => .no) else .no
/-- C(..) -/
def mkD (c : String) (init : D → List D → R (D × D)) (ds : List D) : R D := (init (.obj c [] []) ds).bind fun p => match p.1 with
  | .non => .ok p.2
  | _ => .no
end Tw

set_option maxHeartbeats 2000000
namespace Tw
open PySem PySem.Spec L2
open PyProof.Rows hiding St
section
variable {G : Gc} {Z Z' : Addr → Prop} {H H' : Hp}
theorem Rep.same (s : Same H H') {d : D} {v : V} (h : Rep G Z H d v) : Rep G Z H' d v := Rep.mono (Same.sub s) (fun _ q => .inl q) h
theorem RepL.same (s : Same H H') {d : List D} {v : List V} (h : RepL G Z H d v) : RepL G Z H' d v := RepL.mono (Same.sub s) (fun _ q => .inl q) h
theorem RepL.append : ∀ {ds es : List D} {vs us : List V}, RepL G Z H ds vs → RepL G Z H es us → RepL G Z H (ds ++ es) (vs ++ us)
  | [], es, vs, us, h, k => by rw [show vs = [] from h]; exact k
  | d :: ds, es, vs, us, h, k => by
    obtain ⟨v, r, rfl, h1, h2⟩ := h
    exact ⟨v, r ++ us, rfl, h1, RepL.append h2 k⟩
theorem RepL.take : ∀ {ds : List D} {vs : List V} (n : Nat), RepL G Z H ds vs → RepL G Z H (ds.take n) (vs.take n)
  | ds, vs, 0, _ => by simp [RepL]
  | [], vs, n + 1, h => by rw [show vs = [] from h]; simp [RepL]
  | d :: ds, vs, n + 1, h => by
    obtain ⟨v, r, rfl, h1, h2⟩ := h
    exact ⟨v, r.take n, rfl, h1, RepL.take n h2⟩
theorem RepL.one {d : D} {v : V} (h : Rep G Z H d v) : RepL G Z H [d] [v] := ⟨v, [], rfl, h, rfl⟩
end
theorem RepW.same {G : Gc} {Z : Addr → Prop} {H H' : Hp} (s : Same H H') {d : D} {v : V} (h : RepW G Z H d v) : RepW G Z H' d v := by
  cases d with
  | lst l => obtain ⟨a, vs, e, t, r⟩ := h; exact ⟨a, vs, e, s _ _ t, r.same s⟩
  | dct ks l => obtain ⟨a, vs, e, t, k, r⟩ := h; exact ⟨a, vs, e, s _ _ t, k, r.same s⟩
  | obj c ks l => obtain ⟨a, dx, vs, e, t, k, r⟩ := h; exact ⟨a, dx, vs, e, s _ _ t, k, r.same s⟩
  | _ => exact Rep.same s h
theorem Stp.refl {O : Addr → Prop} {H : Hp} : Stp O H O H := ⟨fun _ _ _ h => h, fun _ h => .inl h⟩
theorem Stp.same {O : Addr → Prop} {H H' : Hp} (s : Same H H') : Stp O H O H' := ⟨fun a o _ h => s a o h, fun _ h => .inl h⟩
theorem Stp.trans {O O1 O2 : Addr → Prop} {H H1 H2 : Hp} (a : Stp O H O1 H1) (b : Stp O1 H1 O2 H2) : Stp O H O2 H2 := by
  refine ⟨fun c o n h => b.1 c o (fun q => ?_) (a.1 c o n h), fun c q => ?_⟩
  · rcases a.2 c q with k | k
    · exact n k
    · rw [k] at h; cases h
  · rcases b.2 c q with k | k
    · exact a.2 c k
    · by_cases hn : H c = none
      · exact .inr hn
      · obtain ⟨o, ho⟩ := Option.ne_none_iff_exists'.mp hn
        by_cases hO : O c
        · exact .inl hO
        · rw [a.1 c o hO ho] at k; cases k
section
variable {Y : Cy} {O : Addr → Prop} {ρ : DEnv} {σ : St} {H H' : Hp} {α : Nat → Addr}
theorem RepG.same (s : Same H H') {Z : Addr → Prop} {G : Gc} {d : D} {v : V} (h : RepG G Z α ρ H d v) : RepG G Z α ρ H' d v := by
  cases d with
  | gst j => exact h
  | _ => exact Rep.same s h
theorem RepGL.same (s : Same H H') {Z : Addr → Prop} {G : Gc} : ∀ {ds : List D} {vs : List V}, RepGL G Z α ρ H ds vs → RepGL G Z α ρ H' ds vs
  | [], vs, h => h
  | d :: ds, vs, h => by
    obtain ⟨v, r, e, h1, h2⟩ := h
    exact ⟨v, r, e, RepG.same s h1, RepGL.same s h2⟩
theorem SRa.same (h : SRa Y O α ρ σ H) (s : Same H H') : SRa Y O α ρ σ H' where
  len := h.len
  val := fun i d e => let ⟨v, e1, r⟩ := h.val i d e; ⟨v, e1, r.same s⟩
  own := fun i d e => let ⟨e1, n, r⟩ := h.own i d e; ⟨e1, n, r.same s⟩
  slf := fun i d e => let ⟨e1, n, c, ks, l, dx, vs, e2, e3, e4, r⟩ := h.slf i d e; ⟨e1, n, c, ks, l, dx, vs, e2, s _ _ e3, e4, r.same s⟩
  gho := fun i d e => let ⟨r, k⟩ := h.gho i d e; ⟨r.same s, k⟩
  inj := h.inj
  oeq := h.oeq
  zt := fun a z q => h.zt a z (s.free q)
  ot := fun a z q => h.ot a z (s.free q)
  ptr := h.ptr.m fun _ _ r => r.same s
theorem SR.same (h : SR Y O ρ σ H) (s : Same H H') : SR Y O ρ σ H' := let ⟨α, h⟩ := h; ⟨α, h.same s⟩
end
def APost (Y : Cy) (O : Addr → Prop) (σ : St) (H : Hp) (Q : List V → Hp → Prop) : R (List D) → Prop
  | .ok ds => ∀ vs H', Same H H' → RepL Y.G (Zo Y.Ze O) H' ds vs → Q vs H'
  | .ex e => ∀ c od H', Same H H' → ExRep Y.G (Zo Y.Ze O) H' e c od → Y.E c od σ H'
  | .no => False
def BPost (Y : Cy) (O : Addr → Prop) (σ : St) (H : Hp) (Q : Bool → Hp → Prop) : R Bool → Prop
  | .ok b => ∀ H', Same H H' → Q b H'
  | .ex e => ∀ c od H', Same H H' → ExRep Y.G (Zo Y.Ze O) H' e c od → Y.E c od σ H'
  | .no => False
def tDA (Y : Cy) (f : DA) : TA := fun σ H Q => ∃ O ρ, SR Y O ρ σ H ∧ APost Y O σ H Q (f ρ)
def tDT (Y : Cy) (f : DT) : TT := fun σ H Q => ∃ O ρ, SR Y O ρ σ H ∧ BPost Y O σ H Q (f ρ)
def tDS (Y : Cy) (F : DS) : TS := fun N σ H => ∃ O ρ, SR Y O ρ σ H ∧ SPost Y O H N (F ρ)
theorem Room.lo {k : Nat} {A : Around} (r : Room k A) : RoomL k A := ⟨r.dp, r.un⟩
theorem hu_L {A : Around} {k : Nat} (r : RoomL k A) : A.units + 1 < cLine := by have := r.un; omega
theorem Lk.room {X : Cx} {Y : Cy} (k : Lk X Y) (h : Y.ca = true) : Room Y.lv X.A := ⟨k.hd h, k.rm.dp, k.rm.un⟩
def PDA (X : Cx) (Y : Cy) (es : List Expr) (f : DA) : Prop := Lk X Y → PA X es (tDA Y f)
def PDT (X : Cx) (Y : Cy) (e : Expr) (f : DT) : Prop := Lk X Y → PT X e (tDT Y f)
def PDTw (X : Cx) (Y : Cy) (e : Expr) (f : DT) : Prop := Lk X Y → PW X e (tDT Y f)
def PDS (X : Cx) (Y : Cy) (st : Stmt) (F : DS) : Prop := Lk X Y → PS X st (tDS Y F)
def PDSs (X : Cx) (Y : Cy) (st : List Stmt) (F : DS) : Prop := Lk X Y → PSs X st (tDS Y F)
theorem impPT {X : Cx} {e : Expr} {t t' : TT} (h : PT X e t) (i : ∀ σ H Q, t' σ H Q → t σ H Q) : PT X e t' := ⟨fun pins s σ H Q I q => h.run pins s σ H Q I (i σ H Q q)⟩
theorem impPW {X : Cx} {e : Expr} {t t' : TT} (h : PW X e t) (i : ∀ σ H Q, t' σ H Q → t σ H Q) : PW X e t' := ⟨fun w pins s σ H Q I q => h.run w pins s σ H Q I (i σ H Q q)⟩
theorem impPA {X : Cx} {e : List Expr} {t t' : TA} (h : PA X e t) (i : ∀ σ H Q, t' σ H Q → t σ H Q) : PA X e t' := ⟨fun p pins s σ H Q I q => h.run p pins s σ H Q I (i σ H Q q)⟩
theorem impPS {X : Cx} {e : Stmt} {t t' : TS} (h : PS X e t) (i : ∀ N σ H, t' N σ H → t N σ H) : PS X e t' := ⟨fun pins s σ H N I q => h.run pins s σ H N I (i N σ H q)⟩
theorem impPSs {X : Cx} {e : List Stmt} {t t' : TS} (h : PSs X e t) (i : ∀ N σ H, t' N σ H → t N σ H) : PSs X e t' := ⟨fun pins s σ H N I q => h.run pins s σ H N I (i N σ H q)⟩
end Tw

set_option maxHeartbeats 2000000
namespace Tw
open PySem PySem.Spec L2
open PyProof.Rows hiding St
/-- what is wanted of an operation's answer -/
def OPost (G : Gc) (Z : Addr → Prop) (H : Hp) (Q : VK) : Option D → Prop
  | some d => ∀ v H', Same H H' → Rep G Z H' d v → Q v H'
  | none => False
def Op2 (G : Gc) (r : R2) (g : D → D → Option D) : Prop := ∀ (Z : Addr → Prop) (H : Hp) (x y : V) (dx dy : D) (Q : VK), (∀ a, Z a → H a ≠ none) → RepW G Z H dx x → RepW G Z H dy y → OPost G Z H Q (g dx dy) → r x y H Q
def Op1 (G : Gc) (r : V → Hp → VK → Prop) (g : D → Option D) : Prop := ∀ (Z : Addr → Prop) (H : Hp) (x : V) (dx : D) (Q : VK), (∀ a, Z a → H a ≠ none) → RepW G Z H dx x → OPost G Z H Q (g dx) → r x H Q
section
variable {X : Cx} {Y : Cy} {a b c : Expr} {fa fb fc : DE} {pos : Pos}
theorem ex_fwd {Y : Cy} {O : Addr → Prop} {σ : L2.St} {H H1 : Hp} {e : Ex} (s : Same H H1) (h : ∀ c od H', Same H H' → ExRep Y.G (Zo Y.Ze O) H' e c od → Y.E c od σ H') :
    ∀ c od H', Same H1 H' → ExRep Y.G (Zo Y.Ze O) H' e c od → Y.E c od σ H' := fun c od H' s' => h c od H' (s.trans s')
/-- two operands, an operation -/
theorem bin_imp {r : R2} {g : D → D → Option D} (ho : Op2 Y.G r g) (σ : L2.St) (H : Hp) (Q : VK) (h : tD Y (e2 g fa fb) σ H Q) : tOp r (tDw Y fa) (tDw Y fb) σ H Q := by
  obtain ⟨O, ρ, s, q⟩ := h
  refine ⟨O, ρ, s, ?_⟩
  unfold e2 at q
  cases ea : fa ρ with
  | ex e => rw [ea] at q; exact q
  | no => rw [ea] at q; exact q
  | ok dx =>
    rw [ea] at q
    intro x H1 s1 rx
    refine ⟨O, ρ, s.same s1, ?_⟩
    simp only [R.bind_ok] at q
    cases eb : fb ρ with
    | ex e => rw [eb] at q; exact ex_fwd s1 q
    | no => rw [eb] at q; exact q
    | ok dy =>
      rw [eb] at q
      simp only [R.bind_ok] at q
      intro y H2 s2 ry
      refine ho _ H2 x y dx dy Q ((s.same (s1.trans s2)).zt) (rx.same s2) ry ?_
      cases eg : g dx dy with
      | none => rw [eg] at q; exact q
      | some d => rw [eg] at q; exact fun v H3 s3 rv => q v H3 (s1.trans (s2.trans s3)) rv
theorem un_imp {r : V → Hp → VK → Prop} {g : D → Option D} (ho : Op1 Y.G r g) (σ : L2.St) (H : Hp) (Q : VK) (h : tD Y (e1 g fa) σ H Q) : tDw Y fa σ H (fun x H1 => r x H1 Q) := by
  obtain ⟨O, ρ, s, q⟩ := h
  refine ⟨O, ρ, s, ?_⟩
  unfold e1 at q
  cases ea : fa ρ with
  | ex e => rw [ea] at q; exact q
  | no => rw [ea] at q; exact q
  | ok dx =>
    rw [ea] at q
    intro x H1 s1 rx
    refine ho _ H1 x dx Q ((s.same s1).zt) rx ?_
    simp only [R.bind_ok] at q
    cases eg : g dx with
    | none => rw [eg] at q; exact q
    | some d => rw [eg] at q; exact fun v H3 s3 rv => q v H3 (s1.trans s3) rv
theorem pd_op {op : Operator} {r : R2} {g : D → D → Option D} (hr : Lk X Y → OpR X (binaryOp op) r) (ho : X.K = Y.G.K → Op2 Y.G r g) (ha : PDw X Y a fa) (hb : PDw X Y b fb) : PD X Y (.BinOp a op b pos) (e2 g fa fb) :=
  fun k => impPE (pe_op (hr k) (ha k) (hb k)) (bin_imp (ho k.K))
theorem pd_cmp {op : CmpOp} {r : R2} {g : D → D → Option D} (hr : Lk X Y → OpR X (compareOp op) r) (ho : X.K = Y.G.K → Op2 Y.G r g) (ha : PDw X Y a fa) (hb : PDw X Y b fb) (hm : behindInMarks op b = false) : PD X Y (.Compare a [op] [b] pos) (e2 g fa fb) :=
  fun k => impPE (pe_cmpR (hr k) (ha k) (hb k) hm) (bin_imp (ho k.K))
theorem pd_var (i : Nat) {x : Str} (hN : X.N[i]? = some x := by rfl) (hv : Vis X.env.scope x := by first | exact Or.inl rfl | exact Or.inr (Or.inl rfl) | exact Or.inr (Or.inr rfl)) (hd : (x == ("__debug__" : Str)) = false := by decide)
    (hcd : (x == ("__classdict__" : Str)) = false := by decide) : PD X Y (.Name x pos) (eVar i) := fun k => impPE (pe_var hN hv hd hcd) fun σ H Q ⟨O, ρ, ⟨α, s⟩, q⟩ => by
  unfold eVar at q
  split at q
  · rename_i d e
    obtain ⟨v, e1, r⟩ := s.val i d e
    exact ⟨v, e1, q v H (Same.refl H) r⟩
  · rename_i d e
    obtain ⟨e1, r⟩ := s.ptr.2 i d e
    exact ⟨_, e1, q _ H (Same.refl H) r⟩
  · exact q.elim
theorem pd_look (i : Nat) {x : Str} (hN : X.N[i]? = some x := by rfl) (hv : Vis X.env.scope x := by first | exact Or.inl rfl | exact Or.inr (Or.inl rfl) | exact Or.inr (Or.inr rfl)) (hd : (x == ("__debug__" : Str)) = false := by decide)
    (hcd : (x == ("__classdict__" : Str)) = false := by decide) : PDw X Y (.Name x pos) (eLook i) := fun k => impPE (pe_var hN hv hd hcd) fun σ H Q ⟨O, ρ, ⟨α, s⟩, q⟩ => by
  unfold eLook at q
  split at q
  · rename_i d e
    obtain ⟨v, e1, r⟩ := s.val i d e
    exact ⟨v, e1, q v H (Same.refl H) r.w⟩
  · rename_i d e
    obtain ⟨e1, _, r⟩ := s.own i d e
    exact ⟨_, e1, q _ H (Same.refl H) r⟩
  · rename_i d e
    obtain ⟨e1, r⟩ := s.ptr.2 i d e
    exact ⟨_, e1, q _ H (Same.refl H) r.w⟩
  · exact q.elim
theorem pd_const {t : TE} {d : D} {v : V} (h : PE X a t) (ht : t = tC v) (hv : ∀ Z H, Rep Y.G Z H d v) : PD X Y a (eC d) := fun k => impPE h fun σ H Q ⟨O, ρ, s, q⟩ => by
  subst ht
  exact q v H (Same.refl H) (hv _ _)
theorem pd_int {i : Int} {j : Nat} : PD X Y (.Constant (.int i) j pos) (eC (.int i)) := pd_const pe_int rfl fun _ _ => rfl
theorem pd_bl {i : Bool} {j : Nat} : PD X Y (.Constant (.bool i) j pos) (eC (.bl i)) := pd_const pe_bl rfl fun _ _ => rfl
theorem pd_str {x : Str} {j : Nat} : PD X Y (.Constant (.str x) j pos) (eC (.str x)) := pd_const pe_str rfl fun _ _ => rfl
theorem pd_glob {x : Str} {u : Value} {d : D} {v : V} (hg : Gl X x) (hm : X.mg x = some u) (r : RelV v u) (hv : ∀ Z H, Rep Y.G Z H d v) (hd : (x == ("__debug__" : Str)) = false := by decide) : PD X Y (.Name x pos) (eC d) := pd_const (pe_glob hg hm r hd) rfl hv
theorem same_new {H : Hp} {n : Addr} {o : HO} (hn : H n = none) : Same H (upd H n o) := fun b u e => by rw [upd_ne (ne_of_none e hn)]; exact e
theorem lineD_eq : (sizeLine : Nat) = lineD := sizeLine_eq
theorem isEmpty_len {α β : Type} {xs : List α} {ys : List β} (h : xs.length = ys.length) : xs.isEmpty = ys.isEmpty := by
  cases xs <;> cases ys <;> simp_all
theorem rep_tup {G : Gc} {Z : Addr → Prop} {H : Hp} {l : List D} {v : V} (h : Rep G Z H (.tup l) v) : ∃ a vs, v = .ref a ∧ SqT G.K H a vs ∧ RepL G Z H l vs := by
  obtain ⟨a, vs, e, t, r⟩ := h
  rcases t with ⟨_, t⟩ | t
  · exact ⟨a, vs, e, .inl (.inl t), r⟩
  · exact ⟨a, vs, e, .inr t, r⟩
theorem rep_scr {G : Gc} {Z : Addr → Prop} {H : Hp} {l : List Int} {v : V} (h : Rep G Z H (.scr l) v) : ∃ a, v = .ref a ∧ SqL G.K H a (l.map V.int) := by
  obtain ⟨a, e, t⟩ := h
  rcases t with ⟨_, t⟩ | t
  · exact ⟨a, e, .inl t⟩
  · exact ⟨a, e, .inr t⟩
theorem RepL.nil_iff {G : Gc} {Z : Addr → Prop} {H : Hp} {l : List D} {vs : List V} (h : RepL G Z H l vs) : vs = [] ↔ l = [] := by
  have := h.length
  cases l <;> cases vs <;> simp_all
def rAddD (K : PySem.W.Frag) : R2 := fun x y H Q => (rI0 fun i j => V.int (i + j)) x y H Q ∨ ((∃ i j, x = V.str i ∧ y = V.str j ∧ i.length + j.length ≤ sizeLine ∧ Q (.str (i ++ j)) H) ∨ (rCat x y H Q ∨ rCatA K x y H Q))
theorem op_addD : OpR X (binaryOp .Add) (rAddD X.K) := op_add.or (op_add_str.or (op_cat.or op_catA))
theorem o2_add (G : Gc) : Op2 G (rAddD G.K) oAdd := by
  intro Z H x y dx dy Q zt rx ry h
  unfold oAdd at h
  split at h
  · rename_i i j
    exact .inl ⟨i, j, rx, ry, h _ H (Same.refl H) rfl⟩
  · rename_i i j
    split at h
    · rename_i hl
      exact .inr (.inl ⟨i, j, rx, ry, by rw [lineD_eq]; exact hl, h _ H (Same.refl H) rfl⟩)
    · exact h.elim
  · rename_i l m
    split at h
    · rename_i hl
      obtain ⟨p, vs, rfl, hp, r1⟩ := rx
      obtain ⟨q, us, rfl, hq, r2⟩ := ry
      refine .inr (.inr (.inl ⟨p, q, vs, us, rfl, rfl, hp, hq, by rw [lineD_eq, ← r1.length, ← r2.length]; exact hl, fun n hn => ?_⟩))
      exact h _ _ (same_new hn) ⟨n, _, rfl, fun z => zt n z hn, upd_same, (r1.append r2).same (same_new hn)⟩
    · exact h.elim
  · rename_i l m
    split at h
    · rename_i hl
      obtain ⟨p, vs, rfl, hp, r1⟩ := rep_tup rx
      obtain ⟨q, us, rfl, hq, r2⟩ := rep_tup ry
      refine .inr (.inr (.inr ⟨p, q, vs, us, rfl, rfl, hp, hq, by rw [lineD_eq, ← r1.length, ← r2.length]; exact hl, fun e => ?_, fun _ e => ?_, fun _ _ n hn => ?_⟩))
      · rw [r1.nil_iff.mp e] at h
        exact h _ H (Same.refl H) (show Rep G Z H (.tup ([] ++ m)) _ from ry)
      · rw [r2.nil_iff.mp e, List.append_nil] at h
        exact h _ H (Same.refl H) rx
      · exact h _ _ (same_new hn) ⟨n, _, rfl, .inl ⟨fun z => zt n z hn, upd_same⟩, (r1.append r2).same (same_new hn)⟩
    · exact h.elim
  · exact h.elim
theorem pd_add (ha : PDw X Y a fa) (hb : PDw X Y b fb) : PD X Y (.BinOp a .Add b pos) (e2 oAdd fa fb) := pd_op (fun _ => op_addD) (fun k => by rw [k]; exact o2_add _) ha hb
def rFdivI : R2 := rI CDiv fun i j => V.int (i / j)
theorem o2_fdiv (G : Gc) : Op2 G rFdivI oFdiv := by
  intro Z H x y dx dy Q zt rx ry h
  unfold oFdiv at h
  split at h
  · rename_i i j
    split at h
    · rename_i hc
      exact ⟨i, j, rx, ry, hc, h _ H (Same.refl H) rfl⟩
    · exact h.elim
  · exact h.elim
theorem pd_fdiv (ha : PDw X Y a fa) (hb : PDw X Y b fb) : PD X Y (.BinOp a .FloorDiv b pos) (e2 oFdiv fa fb) := pd_op (r := rFdivI) (fun _ => op_fdiv) (fun _ => o2_fdiv _) ha hb
def rModI : R2 := rI (fun _ j => 0 < j) fun i j => V.int (i % j)
theorem o2_mod (G : Gc) : Op2 G rModI oMod := by
  intro Z H x y dx dy Q zt rx ry h
  unfold oMod at h
  split at h
  · rename_i i j
    split at h
    · rename_i hc
      exact ⟨i, j, rx, ry, hc, h _ H (Same.refl H) rfl⟩
    · exact h.elim
  · exact h.elim
theorem pd_mod (ha : PDw X Y a fa) (hb : PDw X Y b fb) : PD X Y (.BinOp a .Mod b pos) (e2 oMod fa fb) := pd_op (r := rModI) (fun _ => op_mod) (fun _ => o2_mod _) ha hb
def rPowI : R2 := rI CPow fun i j => V.int (i ^ j.toNat)
theorem o2_pow (G : Gc) : Op2 G rPowI oPow := by
  intro Z H x y dx dy Q zt rx ry h
  unfold oPow at h
  split at h
  · rename_i i j
    split at h
    · rename_i hc
      exact ⟨i, j, rx, ry, hc, h _ H (Same.refl H) rfl⟩
    · exact h.elim
  · exact h.elim
theorem pd_pow (ha : PDw X Y a fa) (hb : PDw X Y b fb) : PD X Y (.BinOp a .Pow b pos) (e2 oPow fa fb) := pd_op (r := rPowI) (fun _ => op_pow) (fun _ => o2_pow _) ha hb
theorem o2_lt (G : Gc) : Op2 G (rI0 fun i j => V.bl (decide (i < j))) oLt := by
  intro Z H x y dx dy Q zt rx ry h
  unfold oLt at h
  split at h
  · rename_i i j
    exact ⟨i, j, rx, ry, h _ H (Same.refl H) rfl⟩
  · exact h.elim
theorem o2_gt (G : Gc) : Op2 G (rI0 fun i j => V.bl (decide (j < i))) oGt := by
  intro Z H x y dx dy Q zt rx ry h
  unfold oGt at h
  split at h
  · rename_i i j
    exact ⟨i, j, rx, ry, h _ H (Same.refl H) rfl⟩
  · exact h.elim
theorem o2_ge (G : Gc) : Op2 G (rI0 fun i j => V.bl (decide (j ≤ i))) oGe := by
  intro Z H x y dx dy Q zt rx ry h
  unfold oGe at h
  split at h
  · rename_i i j
    exact ⟨i, j, rx, ry, h _ H (Same.refl H) rfl⟩
  · exact h.elim
theorem RepL.rep {G : Gc} {Z : Addr → Prop} {H : Hp} {l : List D} {vs : List V} (h : RepL G Z H l vs) : ∀ n : Nat, RepL G Z H (List.replicate n l).flatten (List.replicate n vs).flatten
  | 0 => RepL.nil
  | n + 1 => by
    rw [List.replicate_succ, List.replicate_succ, List.flatten_cons, List.flatten_cons]
    exact h.append (RepL.rep h n)
def rMulS : R2 := fun x y H Q => ∃ (s : Str) (k : Int), x = .str s ∧ y = .int k ∧ 0 ≤ k ∧ k ≤ 1 ∧ Q (.str (repS s k.toNat)) H
theorem op_mul_str1 : OpR X (binaryOp .Mult) rMulS := by
  intro pins s σ H x y v u Q I rx ry h
  obtain ⟨z, k, rfl, rfl, h0, h1, q⟩ := h
  obtain ⟨t, rfl⟩ := rx
  obtain ⟨t', rfl⟩ := ry
  have hk : k = 0 ∨ k = 1 := by omega
  refine PySem.SB.mul (x := z) (n := k) ⟨?_, fun a b => ?_, fun a b => ?_⟩ fun t2 k2 => ⟨.str _, H, I.tok _, ⟨t2, ?_⟩, q⟩
  · rcases hk with rfl | rfl <;> decide
  · rcases hk with rfl | rfl
    · exact absurd (by decide) a
    · simp at b
  · rcases hk with rfl | rfl
    · exact absurd (by decide) a
    · simp at b
  · rcases hk with rfl | rfl
    · rfl
    · have e1 : repS z (1 : Int).toNat = z := by
        show z ++ Str.empty = z
        obtain ⟨c⟩ := z
        show (⟨c ++ #[]⟩ : Str) = ⟨c⟩
        simp
      rw [e1]
      rfl
def rMulD : R2 := fun x y H Q => (rI CMul fun i j => V.int (i * j)) x y H Q ∨ (rRep x y H Q ∨ rMulS x y H Q)
theorem op_mulD : OpR X (binaryOp .Mult) rMulD := op_mul.or (op_rep.or op_mul_str1)
theorem o2_mul (G : Gc) : Op2 G rMulD oMul := by
  intro Z H x y dx dy Q zt rx ry h
  unfold oMul at h
  split at h
  · rename_i i j
    split at h
    · rename_i hc
      exact .inl ⟨i, j, rx, ry, hc, h _ H (Same.refl H) rfl⟩
    · exact h.elim
  · rename_i l k
    split at h
    · rename_i hc
      obtain ⟨p, vs, rfl, hp, r1⟩ := rx
      refine .inr (.inl ⟨p, k, vs, rfl, ry, hp, hc.1, hc.2.1, by rw [lineD_eq, ← r1.length]; exact hc.2.2, fun n hn => ?_⟩)
      exact h _ _ (same_new hn) ⟨n, _, rfl, fun z => zt n z hn, upd_same, (r1.rep _).same (same_new hn)⟩
    · exact h.elim
  · rename_i z k
    split at h
    · rename_i hc
      exact .inr (.inr ⟨z, k, rx, ry, hc.1, hc.2, h _ H (Same.refl H) rfl⟩)
    · exact h.elim
  · exact h.elim
theorem pd_mul (ha : PDw X Y a fa) (hb : PDw X Y b fb) : PD X Y (.BinOp a .Mult b pos) (e2 oMul fa fb) := pd_op (fun _ => op_mulD) (fun _ => o2_mul _) ha hb
end
mutual
def toPy : D → PyData
  | .bl b => .bool b
  | .int i => .int i
  | .str s => .str s
  | .lst l => .list (toPyL l)
  | .tup l => .tuple (toPyL l)
  | _ => .none
def toPyL : List D → List PyData
  | [] => []
  | d :: ds => toPy d :: toPyL ds
end
mutual
theorem deq_py : ∀ (k j : Nat) (d e : D), shp k d = true → shp j e = true → deq d e = PyData.eqv (toPy d) (toPy e)
  | k, j, .lst l, .lst m, h1, h2 => by
    cases k with
    | zero => simp [shp] at h1
    | succ k =>
      cases j with
      | zero => simp [shp] at h2
      | succ j =>
        simp only [deq, toPy, PyData.eqv]
        exact deqL_py k j l m (by simpa [shp] using h1) (by simpa [shp] using h2)
  | k, j, .tup l, .tup m, h1, h2 => by
    cases k with
    | zero => simp [shp] at h1
    | succ k =>
      cases j with
      | zero => simp [shp] at h2
      | succ j =>
        simp only [deq, toPy, PyData.eqv]
        exact deqL_py k j l m (by simpa [shp] using h1) (by simpa [shp] using h2)
  | k, j, .non, e, h1, h2 => by cases e <;> first | (exfalso; cases j <;> simp [shp] at h2; done) | simp [deq, toPy, PyData.eqv]
  | k, j, .bl b, e, h1, h2 => by cases e <;> first | (exfalso; cases j <;> simp [shp] at h2; done) | simp [deq, toPy, PyData.eqv]
  | k, j, .int i, e, h1, h2 => by cases e <;> first | (exfalso; cases j <;> simp [shp] at h2; done) | simp [deq, toPy, PyData.eqv]
  | k, j, .str i, e, h1, h2 => by cases e <;> first | (exfalso; cases j <;> simp [shp] at h2; done) | simp [deq, toPy, PyData.eqv]
  | k, j, .cls n, e, h1, h2 => by cases k <;> simp [shp] at h1
  | k, j, .scr n, e, h1, h2 => by cases k <;> simp [shp] at h1
  | k, j, .gst n, e, h1, h2 => by cases k <;> simp [shp] at h1
  | k, j, .dct n m, e, h1, h2 => by cases k <;> simp [shp] at h1
  | k, j, .obj n m o, e, h1, h2 => by cases k <;> simp [shp] at h1
  | k, j, .lst l, .non, h1, h2 => by simp [deq, toPy, PyData.eqv]
  | k, j, .lst l, .bl _, h1, h2 => by simp [deq, toPy, PyData.eqv]
  | k, j, .lst l, .int _, h1, h2 => by simp [deq, toPy, PyData.eqv]
  | k, j, .lst l, .str _, h1, h2 => by simp [deq, toPy, PyData.eqv]
  | k, j, .lst l, .tup _, h1, h2 => by simp [deq, toPy, PyData.eqv]
  | k, j, .lst l, .cls _, h1, h2 => by cases j <;> simp [shp] at h2
  | k, j, .lst l, .scr _, h1, h2 => by cases j <;> simp [shp] at h2
  | k, j, .lst l, .gst _, h1, h2 => by cases j <;> simp [shp] at h2
  | k, j, .lst l, .dct _ _, h1, h2 => by cases j <;> simp [shp] at h2
  | k, j, .lst l, .obj _ _ _, h1, h2 => by cases j <;> simp [shp] at h2
  | k, j, .tup l, .non, h1, h2 => by simp [deq, toPy, PyData.eqv]
  | k, j, .tup l, .bl _, h1, h2 => by simp [deq, toPy, PyData.eqv]
  | k, j, .tup l, .int _, h1, h2 => by simp [deq, toPy, PyData.eqv]
  | k, j, .tup l, .str _, h1, h2 => by simp [deq, toPy, PyData.eqv]
  | k, j, .tup l, .lst _, h1, h2 => by simp [deq, toPy, PyData.eqv]
  | k, j, .tup l, .cls _, h1, h2 => by cases j <;> simp [shp] at h2
  | k, j, .tup l, .scr _, h1, h2 => by cases j <;> simp [shp] at h2
  | k, j, .tup l, .gst _, h1, h2 => by cases j <;> simp [shp] at h2
  | k, j, .tup l, .dct _ _, h1, h2 => by cases j <;> simp [shp] at h2
  | k, j, .tup l, .obj _ _ _, h1, h2 => by cases j <;> simp [shp] at h2
theorem deqL_py : ∀ (k j : Nat) (d e : List D), (∀ x ∈ d, shp k x = true) → (∀ x ∈ e, shp j x = true) → deqL d e = PyData.eqvAll (toPyL d) (toPyL e)
  | k, j, [], [], h1, h2 => by simp [deqL, toPyL, PyData.eqvAll]
  | k, j, [], y :: e, h1, h2 => by simp [deqL, toPyL, PyData.eqvAll]
  | k, j, x :: d, [], h1, h2 => by simp [deqL, toPyL, PyData.eqvAll]
  | k, j, x :: d, y :: e, h1, h2 => by
    simp only [deqL, toPyL, PyData.eqvAll]
    rw [deq_py k j x y (h1 x List.mem_cons_self) (h2 y List.mem_cons_self), deqL_py k j d e (fun z hz => h1 z (List.mem_cons_of_mem _ hz)) (fun z hz => h2 z (List.mem_cons_of_mem _ hz))]
end
mutual
theorem py_lay : ∀ (k : Nat) (d : D), shp k d = true → (toPy d).canLay0 = true ∧ (toPy d).depth ≤ k
  | k, .lst l, h1 => by
    cases k with
    | zero => simp [shp] at h1
    | succ k =>
      obtain ⟨a, b⟩ := pyL_lay k l (by simpa [shp] using h1)
      simp only [toPy, PyData.canLay0, PyData.depth]
      exact ⟨a, by omega⟩
  | k, .tup l, h1 => by
    cases k with
    | zero => simp [shp] at h1
    | succ k =>
      obtain ⟨a, b⟩ := pyL_lay k l (by simpa [shp] using h1)
      simp only [toPy, PyData.canLay0, PyData.depth]
      exact ⟨a, by omega⟩
  | k, .non, h1 => by simp [toPy, PyData.canLay0, PyData.depth]
  | k, .bl b, h1 => by simp [toPy, PyData.canLay0, PyData.depth]
  | k, .int b, h1 => by simp [toPy, PyData.canLay0, PyData.depth]
  | k, .str b, h1 => by
    refine ⟨?_, by simp [toPy, PyData.depth]⟩
    have : strOkD b = true := by cases k <;> simpa [shp] using h1
    simp only [toPy, PyData.canLay0]
    exact this
  | k, .cls n, h1 => by cases k <;> simp [shp] at h1
  | k, .scr n, h1 => by cases k <;> simp [shp] at h1
  | k, .gst n, h1 => by cases k <;> simp [shp] at h1
  | k, .dct n m, h1 => by cases k <;> simp [shp] at h1
  | k, .obj n m o, h1 => by cases k <;> simp [shp] at h1
theorem pyL_lay : ∀ (k : Nat) (d : List D), (∀ x ∈ d, shp k x = true) → PyData.canLayAll0 (toPyL d) = true ∧ PyData.depthAll (toPyL d) ≤ k
  | k, [], h => by simp [toPyL, PyData.canLayAll0, PyData.depthAll]
  | k, x :: d, h => by
    obtain ⟨a, b⟩ := py_lay k x (h x List.mem_cons_self)
    obtain ⟨a2, b2⟩ := pyL_lay k d fun z hz => h z (List.mem_cons_of_mem _ hz)
    simp only [toPyL, PyData.canLayAll0, PyData.depthAll, a, a2]
    exact ⟨rfl, by omega⟩
end
mutual
theorem rep_dp {G : Gc} {Z : Addr → Prop} {H : Hp} : ∀ (k : Nat) (d : D) (v : V), shp k d = true → Rep G Z H d v → Dp G.K H v (toPy d)
  | k, .lst l, v, h1, r => by
    cases k with
    | zero => simp [shp] at h1
    | succ k =>
      obtain ⟨a, vs, rfl, _, e, r⟩ := r
      exact .lst (SqL.of e) (repL_dp k l vs (by simpa [shp] using h1) r)
  | k, .tup l, v, h1, r => by
    cases k with
    | zero => simp [shp] at h1
    | succ k =>
      obtain ⟨a, vs, rfl, e, r⟩ := rep_tup r
      exact .tup e (repL_dp k l vs (by simpa [shp] using h1) r)
  | k, .non, v, h1, r => by obtain rfl : v = .non := r; exact .non
  | k, .bl b, v, h1, r => by obtain rfl : v = .bl b := r; exact .bl b
  | k, .int b, v, h1, r => by obtain rfl : v = .int b := r; exact .int b
  | k, .str b, v, h1, r => by obtain rfl : v = .str b := r; exact .str b
  | k, .cls n, v, h1, r => by cases k <;> simp [shp] at h1
  | k, .scr n, v, h1, r => by cases k <;> simp [shp] at h1
  | k, .gst n, v, h1, r => by cases k <;> simp [shp] at h1
  | k, .dct n m, v, h1, r => by cases k <;> simp [shp] at h1
  | k, .obj n m o, v, h1, r => by cases k <;> simp [shp] at h1
theorem repL_dp {G : Gc} {Z : Addr → Prop} {H : Hp} : ∀ (k : Nat) (d : List D) (v : List V), (∀ x ∈ d, shp k x = true) → RepL G Z H d v → DpAll G.K H v (toPyL d)
  | k, [], v, h, r => by obtain rfl : v = [] := r; exact .nil
  | k, x :: d, v, h, r => by
    obtain ⟨u, w, rfl, r1, r2⟩ := r
    exact .cons (rep_dp k x u (h x List.mem_cons_self) r1) (repL_dp k d w (fun z hz => h z (List.mem_cons_of_mem _ hz)) r2)
end
theorem repw_dp {G : Gc} {Z : Addr → Prop} {H : Hp} {k : Nat} {d : D} {v : V} (h1 : shp k d = true) (r : RepW G Z H d v) : Dp G.K H v (toPy d) := by
  cases d with
  | lst l =>
    cases k with
    | zero => simp [shp] at h1
    | succ k =>
      obtain ⟨a, vs, rfl, e, r⟩ := r
      exact .lst (SqL.of e) (repL_dp k l vs (by simpa [shp] using h1) r)
  | dct a b => cases k <;> simp [shp] at h1
  | obj a b c => cases k <;> simp [shp] at h1
  | _ => exact rep_dp (Z := Z) k _ v h1 r
theorem shaped_py {k : Nat} {d : D} (h : shp k d = true) (hk : k ≤ 64) : SeqAt.shaped (toPy d) = true := by
  obtain ⟨a, b⟩ := py_lay k d h
  unfold SeqAt.shaped
  rw [a, decide_eq_true (Nat.le_trans b hk)]
  rfl
/-- scalars compare as data do -/
theorem scal_of {G : Gc} {Z : Addr → Prop} {H : Hp} {d e : D} {x y : V} (r1 : RepW G Z H d x) (r2 : RepW G Z H e y) (h : scalD d e = true) : scal x y = true ∧ decide (x = y) = deq d e := by
  cases d <;> cases e <;> simp only [scalD, Bool.false_eq_true] at h <;>
    (obtain rfl : x = _ := r1; obtain rfl : y = _ := r2; refine ⟨rfl, ?_⟩; simp only [deq]) <;> first
    | rfl
    | simp
  all_goals (first | (rename_i a b; by_cases q : a = b <;> simp [q]) | skip)
section
variable {X : Cx} {Y : Cy} {a b c : Expr} {fa fb fc : DE} {pos : Pos}
def rEqA (K : PySem.W.Frag) : R2 := fun x y H Q => rEq x y H Q ∨ rEqD K x y H Q
def rNeA (K : PySem.W.Frag) : R2 := fun x y H Q => rNe x y H Q ∨ rNeD K x y H Q
theorem o2_eq (G : Gc) : Op2 G (rEqA G.K) oEq := by
  intro Z H x y dx dy Q zt rx ry h
  unfold oEq eqD at h
  split at h
  · rename_i hs
    obtain ⟨h1, h2⟩ := scal_of rx ry hs
    exact .inl ⟨h1, by rw [h2]; exact h _ H (Same.refl H) rfl⟩
  · split at h
    · rename_i hs
      obtain ⟨h1, h2⟩ := Bool.and_eq_true_iff.mp hs
      refine .inr ⟨_, _, repw_dp h1 rx, repw_dp h2 ry, shaped_py h1 (by decide), shaped_py h2 (by decide), ?_⟩
      rw [← deq_py 60 60 dx dy h1 h2]
      exact h _ H (Same.refl H) rfl
    · exact h.elim
theorem o2_ne (G : Gc) : Op2 G (rNeA G.K) oNe := by
  intro Z H x y dx dy Q zt rx ry h
  unfold oNe eqD at h
  split at h
  · rename_i hs
    obtain ⟨h1, h2⟩ := scal_of rx ry hs
    exact .inl ⟨h1, by rw [h2]; exact h _ H (Same.refl H) rfl⟩
  · split at h
    · rename_i hs
      obtain ⟨h1, h2⟩ := Bool.and_eq_true_iff.mp hs
      refine .inr ⟨_, _, repw_dp h1 rx, repw_dp h2 ry, shaped_py h1 (by decide), shaped_py h2 (by decide), ?_⟩
      rw [← deq_py 60 60 dx dy h1 h2]
      exact h _ H (Same.refl H) rfl
    · exact h.elim
theorem hu65 {A : Around} {k : Nat} (r : RoomL k A) : A.units + 65 < cLine := by have := r.un; omega
theorem hu64 {A : Around} {k : Nat} (r : RoomL k A) : A.units + 64 < cLine := by have := r.un; omega
theorem pd_eq (ha : PDw X Y a fa) (hb : PDw X Y b fb) : PD X Y (.Compare a [.Eq] [b] pos) (e2 oEq fa fb) :=
  pd_cmp (r := rEqA X.K) (fun k => op_eq.or (op_eqD (hu64 k.rm))) (fun k => by rw [k]; exact o2_eq _) ha hb (nomark _)
end
end Tw

set_option maxHeartbeats 2000000
namespace Tw
open PySem PySem.Spec L2
open PyProof.Rows hiding St
theorem look_val {G : Gc} {Z : Addr → Prop} {H : Hp} : ∀ {ks : List Str} {l : List D} {vs : List V} (x : Str), ks.length = vs.length → RepL G Z H l vs →
    match lookD ks l x with
    | some d => ∃ v, valV (sKeys ks vs) (Sum.inr x : Key) = some v ∧ Rep G Z H d v
    | none => valV (sKeys ks vs) (Sum.inr x : Key) = none
  | [], l, vs, x, e, r => by cases l <;> cases vs <;> simp_all [lookD, sKeys, valV]
  | k :: ks, l, [], x, e, r => by simp at e
  | k :: ks, [], v :: vs, x, e, r => by cases (show (v :: vs) = [] from r)
  | k :: ks, d :: l, v :: vs, x, e, r => by
    obtain ⟨v', r', e', r1, r2⟩ := r
    cases e'
    have ih := look_val (ks := ks) (l := l) (vs := vs) x (by simpa using e) r2
    by_cases q : x = k
    · subst q
      simp only [lookD, if_pos rfl, sKeys]
      exact ⟨v, valV_pos rfl, r1⟩
    · have q' : ¬ (Sum.inr k : Key) = Sum.inr x := fun z => q (Sum.inr.inj z).symm
      simp only [lookD, if_neg q, sKeys]
      rw [valV_neg q']
      exact ih
theorem look_fld {G : Gc} {Z : Addr → Prop} {H : Hp} : ∀ {ks : List Str} {l : List D} {vs : List V} (x : Str), ks.length = vs.length → RepL G Z H l vs →
    match lookD ks l x with
    | some d => ∃ v, (fKeys ks vs).lookup x = some v ∧ Rep G Z H d v
    | none => (fKeys ks vs).lookup x = none
  | [], l, vs, x, e, r => by cases l <;> cases vs <;> simp_all [lookD, fKeys]
  | k :: ks, l, [], x, e, r => by simp at e
  | k :: ks, [], v :: vs, x, e, r => by cases (show (v :: vs) = [] from r)
  | k :: ks, d :: l, v :: vs, x, e, r => by
    obtain ⟨v', r', e', r1, r2⟩ := r
    cases e'
    have ih := look_fld (ks := ks) (l := l) (vs := vs) x (by simpa using e) r2
    by_cases q : x = k
    · subst q
      simp only [lookD, if_pos rfl, fKeys, List.lookup_cons, beq_self_eq_true]
      exact ⟨v, rfl, r1⟩
    · have q' : (x == k) = false := beq_eq_false_iff_ne.mpr q
      simp only [lookD, if_neg q, fKeys, List.lookup_cons, q']
      exact ih
theorem isEmpty_sKeys {ks : List Str} {vs : List V} (e : ks.length = vs.length) : (sKeys ks vs).isEmpty = ks.isEmpty := by
  cases ks <;> cases vs <;> simp_all [sKeys]
theorem rep_flat {G : Gc} {Z : Addr → Prop} {H : Hp} {d : D} {v : V} (f : flatD d = true) (r : RepW G Z H d v) : flatV v = true ∧ ∀ e u, flatD e = true → RepW G Z H e u → eqV u v = deq e d := by
  cases d <;> simp only [flatD, Bool.false_eq_true] at f <;> obtain rfl : v = _ := r <;> refine ⟨rfl, fun e u fe re => ?_⟩ <;>
    (cases e <;> simp only [flatD, Bool.false_eq_true] at fe <;> obtain rfl : u = _ := re <;> simp only [eqV, deq])
theorem rep_flats {G : Gc} {Z : Addr → Prop} {H : Hp} {d : D} {v : V} (f : flatD d = true) (r : RepW G Z H d v) : ∀ {l : List D} {vs : List V}, l.all flatD = true → RepL G Z H l vs → vs.all flatV = true ∧ inV v vs = l.any fun y => deq y d
  | [], vs, _, h => by obtain rfl : vs = [] := h; simp [inV]
  | e :: l, vs, fl, h => by
    obtain ⟨u, w, rfl, r1, r2⟩ := h
    simp only [List.all_cons, Bool.and_eq_true] at fl
    obtain ⟨a, b⟩ := rep_flats f r fl.2 r2
    obtain ⟨c, k⟩ := rep_flat f r
    obtain ⟨c2, _⟩ := rep_flat fl.1 r1.w
    refine ⟨by simp only [List.all_cons, a, c2, Bool.and_self], ?_⟩
    unfold inV at b ⊢
    rw [List.any_cons, List.any_cons, b, k e u fl.1 r1.w]
theorem any_py {k : Nat} {d : D} (hd : shp k d = true) : ∀ {l : List D}, l.all (shp k) = true → ((toPyL l).any fun z => PyData.eqv z (toPy d)) = l.any fun y => deq y d
  | [], _ => rfl
  | e :: l, h => by
    simp only [List.all_cons, Bool.and_eq_true] at h
    simp only [toPyL, List.any_cons]
    rw [any_py hd h.2, deq_py k k e d h.1 hd]
section
variable {X : Cx} {Y : Cy} {a b c : Expr} {fa fb fc : DE} {pos : Pos}
def rInK : R2 := fun x y H Q => ∃ a kvs k, y = .ref a ∧ H a = some (.dK kvs) ∧ x = kV k ∧ Q (.bl (valV kvs k).isSome) H
def rNotInK : R2 := fun x y H Q => ∃ a kvs k, y = .ref a ∧ H a = some (.dK kvs) ∧ x = kV k ∧ Q (.bl (!(valV kvs k).isSome)) H
theorem op_in_dict {k : Nat} (hr : RoomL k X.A) : OpR X (compareOp .In) rInK := by
  intro pins s σ H x y v u Q I rx ry h
  obtain ⟨a, kvs, k, rfl, e, rfl, q⟩ := h
  cases ry
  exact d_in (hu_L hr) I (DGet.k e) rx fun s' I' => ⟨.bl _, H, I', rfl, q⟩
theorem op_notin_dict {k : Nat} (hr : RoomL k X.A) : OpR X (compareOp .NotIn) rNotInK := by
  intro pins s σ H x y v u Q I rx ry h
  obtain ⟨a, kvs, k, rfl, e, rfl, q⟩ := h
  cases ry
  exact d_notIn (hu_L hr) I (DGet.k e) rx fun s' I' => ⟨.bl _, H, I', rfl, q⟩
abbrev rSign : R2 := fun x y H Q => ∃ (c : Nat) (z : Str), x = .str ⟨#[c]⟩ ∧ y = .str z ∧ Q (.bl (decide (c ∈ z.cps.toList))) H
abbrev rNSign : R2 := fun x y H Q => ∃ (c : Nat) (z : Str), x = .str ⟨#[c]⟩ ∧ y = .str z ∧ Q (.bl (!decide (c ∈ z.cps.toList))) H
def rInA (K : PySem.W.Frag) : R2 := fun x y H Q => rSign x y H Q ∨ (rIn K false x y H Q ∨ (rInD K x y H Q ∨ rInK x y H Q))
def rNInA (K : PySem.W.Frag) : R2 := fun x y H Q => rNSign x y H Q ∨ (rIn K true x y H Q ∨ (rNotInD K x y H Q ∨ rNotInK x y H Q))
theorem str_one {s : Str} {c : Nat} (h : s.cps.toList = [c]) : s = ⟨#[c]⟩ := by
  obtain ⟨a⟩ := s
  have : a = #[c] := by
    have h' : a.toList = (#[c] : Array Nat).toList := h
    exact Array.toList_inj.mp h'
  rw [this]
/-- what `in` asks, as one fact -/
theorem in_fact {G : Gc} {Z : Addr → Prop} {H : Hp} {x y : V} {dx dy : D} {r : Bool} (rx : RepW G Z H dx x) (ry : RepW G Z H dy y) (h : inD dx dy = some r) :
    (∃ (c : Nat) (z : Str), x = .str ⟨#[c]⟩ ∧ y = .str z ∧ decide (c ∈ z.cps.toList) = r) ∨
    (∃ p xs, y = .ref p ∧ (SqL G.K H p xs ∨ SqT G.K H p xs) ∧ flatV x = true ∧ xs.all flatV = true ∧ inV x xs = r) ∨
    (∃ d ds, Dp G.K H x d ∧ Dp G.K H y (.list ds) ∧ SeqAt.shaped d = true ∧ SeqAt.shaped (.list ds) = true ∧ (ds.any fun z => PyData.eqv z d) = r) ∨
    (∃ a kvs k, y = .ref a ∧ H a = some (.dK kvs) ∧ x = kV k ∧ (valV kvs k).isSome = r) := by
  unfold inD at h
  split at h
  · split at h
    · rename_i t _ s
      obtain rfl : x = .str s := rx
      obtain rfl : y = .str t := ry
      obtain ⟨c, e, h⟩ := Option.map_eq_some_iff.mp h
      have e' : s.cps.toList = [c] := by
        unfold sgnD at e
        split at e
        · rename_i c' q
          rw [q, Option.some.inj e]
        · cases e
      exact .inl ⟨c, t, by rw [str_one e'], rfl, h⟩
    · cases h
  · rename_i l
    obtain ⟨p, vs, rfl, e, r2⟩ := ry
    split at h
    · rename_i hf
      obtain ⟨f1, f2⟩ := Bool.and_eq_true_iff.mp hf
      injection h with h
      obtain ⟨g1, g2⟩ := rep_flats f1 rx f2 r2
      exact .inr (.inl ⟨p, vs, rfl, .inl (SqL.of e), (rep_flat f1 rx).1, g1, g2.trans h⟩)
    · split at h
      · rename_i hf
        obtain ⟨f1, f2⟩ := Bool.and_eq_true_iff.mp hf
        injection h with h
        have f3 : ∀ x ∈ l, shp 60 x = true := fun x hx => List.all_eq_true.mp f2 x hx
        refine .inr (.inr (.inl ⟨_, toPyL l, repw_dp f1 rx, .lst (SqL.of e) (repL_dp 60 l vs f3 r2), shaped_py f1 (by decide), ?_, (any_py f1 f2).trans h⟩))
        exact shaped_py (k := 61) (d := .lst l) (by simpa [shp] using f3) (by decide)
      · cases h
  · rename_i l
    obtain ⟨p, vs, rfl, e, r2⟩ := rep_tup ry
    split at h
    · rename_i hf
      obtain ⟨f1, f2⟩ := Bool.and_eq_true_iff.mp hf
      injection h with h
      obtain ⟨g1, g2⟩ := rep_flats f1 rx f2 r2
      exact .inr (.inl ⟨p, vs, rfl, .inr e, (rep_flat f1 rx).1, g1, g2.trans h⟩)
    · cases h
  · rename_i ks l
    obtain ⟨p, vs, rfl, e, hl, r2⟩ := ry
    split at h
    · rename_i s
      obtain rfl : x = .str s := rx
      injection h with h
      refine .inr (.inr (.inr ⟨p, _, Sum.inr s, rfl, e, rfl, ?_⟩))
      have q := look_val s hl r2
      rw [← h]
      split at q
      · rename_i d e1
        obtain ⟨v, e2, _⟩ := q
        rw [e1, e2]
        rfl
      · rename_i e1
        rw [e1, q]
        rfl
    · cases h
  · cases h
theorem o2_in (G : Gc) : Op2 G (rInA G.K) oIn := by
  intro Z H x y dx dy Q zt rx ry h
  unfold oIn at h
  cases e : inD dx dy with
  | none => rw [e] at h; exact h.elim
  | some r =>
    rw [e] at h
    have hq : Q (.bl r) H := h _ H (Same.refl H) rfl
    rcases in_fact rx ry e with ⟨c, z, e1, e2, q⟩ | ⟨p, xs, e1, e2, e3, e4, q⟩ | ⟨d, ds, e1, e2, e3, e4, q⟩ | ⟨p, kvs, k, e1, e2, e3, q⟩
    · exact .inl ⟨c, z, e1, e2, by rw [q]; exact hq⟩
    · exact .inr (.inl ⟨p, xs, e1, e2, e3, e4, by rw [if_neg Bool.false_ne_true, q]; exact hq⟩)
    · exact .inr (.inr (.inl ⟨d, ds, e1, e2, e3, e4, by rw [q]; exact hq⟩))
    · exact .inr (.inr (.inr ⟨p, kvs, k, e1, e2, e3, by rw [q]; exact hq⟩))
theorem o2_notin (G : Gc) : Op2 G (rNInA G.K) oNotIn := by
  intro Z H x y dx dy Q zt rx ry h
  unfold oNotIn at h
  cases e : inD dx dy with
  | none => rw [e] at h; exact h.elim
  | some r =>
    rw [e] at h
    have hq : Q (.bl (!r)) H := h _ H (Same.refl H) rfl
    rcases in_fact rx ry e with ⟨c, z, e1, e2, q⟩ | ⟨p, xs, e1, e2, e3, e4, q⟩ | ⟨d, ds, e1, e2, e3, e4, q⟩ | ⟨p, kvs, k, e1, e2, e3, q⟩
    · exact .inl ⟨c, z, e1, e2, by rw [q]; exact hq⟩
    · exact .inr (.inl ⟨p, xs, e1, e2, e3, e4, by rw [if_pos rfl, q]; exact hq⟩)
    · exact .inr (.inr (.inl ⟨d, ds, e1, e2, e3, e4, by rw [q]; exact hq⟩))
    · exact .inr (.inr (.inr ⟨p, kvs, k, e1, e2, e3, by rw [q]; exact hq⟩))
theorem pd_in (ha : PDw X Y a fa) (hb : PDw X Y b fb) (hm : behindInMarks .In b = false := by rfl) : PD X Y (.Compare a [.In] [b] pos) (e2 oIn fa fb) :=
  pd_cmp (r := rInA X.K) (fun k => op_in_sign.or (op_in_seq.or ((op_inD (hu65 k.rm)).or (op_in_dict k.rm)))) (fun k => by rw [k]; exact o2_in _) ha hb hm
end
end Tw

set_option maxHeartbeats 2000000
namespace Tw
open PySem PySem.Spec L2
open PyProof.Rows hiding St
theorem orPE {X : Cx} {e : Expr} {t u : TE} (h : PE X e t) (k : PE X e u) : PE X e (fun σ H Q => t σ H Q ∨ u σ H Q) := ⟨fun pins s σ H Q I q => q.elim (h.run pins s σ H Q I) (k.run pins s σ H Q I)⟩
theorem atD_rep {G : Gc} {Z : Addr → Prop} {H : Hp} {l : List D} {vs : List V} {i : Int} {d : D} (r : RepL G Z H l vs) (h : atD l i = some d) : ∃ v, atI vs i = some v ∧ Rep G Z H d v := by
  have e := r.length
  unfold atD at h
  unfold atI ixN
  split at h
  · rename_i h0
    obtain ⟨v, e1, r1⟩ := r.get h
    have hl : i.toNat < vs.length := (List.getElem?_eq_some_iff.mp e1).1
    refine ⟨v, ?_, r1⟩
    rw [if_pos h0, if_pos (by omega)]
    exact e1
  · rename_i h0
    split at h
    · rename_i h1
      obtain ⟨v, e1, r1⟩ := r.get h
      refine ⟨v, ?_, r1⟩
      rw [if_neg h0, if_pos (by omega), ← e]
      exact e1
    · cases h
theorem atD_map {α β : Type} (f : α → β) (l : List α) (i : Int) : atD (l.map f) i = (atD l i).map f := by
  unfold atD
  rw [List.length_map]
  split
  · rw [List.getElem?_map]
  · split
    · rw [List.getElem?_map]
    · rfl
theorem atI_eq {α : Type} (l : List α) (i : Int) : atI l i = atD l i := by
  unfold atD atI ixN
  split
  · rename_i h0
    by_cases h : i < l.length
    · rw [if_pos h]; rfl
    · rw [if_neg h]
      have : l.length ≤ i.toNat := by omega
      rw [List.getElem?_eq_none this]
      rfl
  · split <;> rfl
section
variable {X : Cx} {Y : Cy} {a b c e : Expr} {fa fb fc : DE} {pos p2 : Pos}
theorem o2_ix (G : Gc) (Z : Addr → Prop) (H : Hp) (x y : V) (dx dy : D) (Q : VK) (zt : ∀ a, Z a → H a ≠ none) (rx : RepW G Z H dx x) (ry : RepW G Z H dy y) (h : OPost G Z H Q (oIx dx dy)) :
    (∀ ks l, dx ≠ .dct ks l) → rIx G.K x y H Q := by
  intro hd
  unfold oIx at h
  split at h
  · rename_i l i
    obtain ⟨p, vs, rfl, hp, r1⟩ := rx
    cases e : atD l i with
    | none => rw [e] at h; exact h.elim
    | some d =>
      rw [e] at h
      obtain ⟨v, e1, e2⟩ := atD_rep r1 e
      exact .inl ⟨p, vs, i, v, rfl, ry, SqL.of hp, e1, h _ H (Same.refl H) e2⟩
  · rename_i l i
    obtain ⟨p, vs, rfl, hp, r1⟩ := rep_tup rx
    cases e : atD l i with
    | none => rw [e] at h; exact h.elim
    | some d =>
      rw [e] at h
      obtain ⟨v, e1, e2⟩ := atD_rep r1 e
      exact .inr (.inl ⟨p, vs, i, v, rfl, ry, hp, e1, h _ H (Same.refl H) e2⟩)
  · rename_i l i
    obtain ⟨p, rfl, hp⟩ := rep_scr rx
    cases e : atD l i with
    | none => rw [e] at h; exact h.elim
    | some d =>
      rw [e] at h
      refine .inl ⟨p, _, i, .int d, rfl, ry, hp, ?_, h _ H (Same.refl H) rfl⟩
      rw [atI_eq, atD_map, e]
      rfl
  · rename_i s i
    split at h
    · rename_i hl
      cases e : atD s.cps.toList i with
      | none => rw [e] at h; exact h.elim
      | some d =>
        rw [e] at h
        exact .inr (.inr ⟨s, i, d, rx, ry, by rw [lineD_eq]; exact hl, by rw [atI_eq]; exact e, h _ H (Same.refl H) rfl⟩)
    · exact h.elim
  · exact absurd rfl (hd _ _)
  · exact h.elim
theorem o2_ixd (G : Gc) (Z : Addr → Prop) (H : Hp) (x y : V) (ks : List Str) (l : List D) (dy : D) (Q : VK) (rx : RepW G Z H (.dct ks l) x) (ry : RepW G Z H dy y) (h : OPost G Z H Q (oIx (.dct ks l) dy)) :
    ∃ a v, x = .ref a ∧ DGet H a y (some v) ∧ Q v H := by
  cases dy with
  | str s =>
    obtain ⟨p, vs, rfl, hp, hl, r1⟩ := rx
    obtain rfl : y = .str s := ry
    have q := look_val s hl r1
    simp only [oIx] at h
    cases e : lookD ks l s with
    | none => rw [e] at h; exact h.elim
    | some d =>
      rw [e] at h q
      obtain ⟨v, e1, e2⟩ := q
      refine ⟨p, v, rfl, ?_, h _ H (Same.refl H) e2⟩
      rw [← e1]
      exact DGet.k (k := Sum.inr s) hp
  | _ => exact h.elim
theorem pd_ix (ha : PDw X Y a fa) (hb : PDw X Y b fb) (hs : PlainIx b := by intro _ _; rfl) : PD X Y (.Subscript a b pos) (e2 oIx fa fb) := fun k => by
  refine impPE (orPE (pe_ix ix_seq (ha k) (hb k) hs) (pe_dget (hu_L k.rm) (ha k) (hb k) hs)) fun σ H Q h => ?_
  obtain ⟨O, ρ, s, q⟩ := h
  unfold e2 at q
  cases ea : fa ρ with
  | ex e => rw [ea] at q; exact .inl ⟨O, ρ, s, by rw [ea]; exact q⟩
  | no => rw [ea] at q; exact q.elim
  | ok dx =>
    rw [ea] at q
    simp only [R.bind_ok] at q
    by_cases hd : ∃ ks l, dx = .dct ks l
    · obtain ⟨ks, l, rfl⟩ := hd
      refine .inr ⟨O, ρ, s, ?_⟩
      rw [ea]
      intro x H1 s1 rx
      refine ⟨O, ρ, s.same s1, ?_⟩
      cases eb : fb ρ with
      | ex e => rw [eb] at q; exact ex_fwd s1 q
      | no => rw [eb] at q; exact q
      | ok dy =>
        rw [eb] at q
        simp only [R.bind_ok] at q
        intro y H2 s2 ry
        refine o2_ixd Y.G _ H2 x y ks l dy Q (rx.same s2) ry ?_
        cases eg : oIx (.dct ks l) dy with
        | none => rw [eg] at q; exact q
        | some d => rw [eg] at q; exact fun v H3 s3 rv => q v H3 (s1.trans (s2.trans s3)) rv
    · refine .inl ⟨O, ρ, s, ?_⟩
      rw [ea]
      intro x H1 s1 rx
      refine ⟨O, ρ, s.same s1, ?_⟩
      cases eb : fb ρ with
      | ex e => rw [eb] at q; exact ex_fwd s1 q
      | no => rw [eb] at q; exact q
      | ok dy =>
        rw [eb] at q
        simp only [R.bind_ok] at q
        intro y H2 s2 ry
        rw [k.K]
        refine o2_ix Y.G _ H2 x y dx dy Q ((s.same (s1.trans s2)).zt) (rx.same s2) ry ?_ fun ks l z => hd ⟨ks, l, z⟩
        cases eg : oIx dx dy with
        | none => rw [eg] at q; exact q
        | some d => rw [eg] at q; exact fun v H3 s3 rv => q v H3 (s1.trans (s2.trans s3)) rv
theorem lookD_mem : ∀ {ks : List Str} {l : List D} {f : Str} {d : D}, lookD ks l f = some d → f ∈ ks
  | [], l, f, d, h => by cases l <;> simp [lookD] at h
  | k :: ks, [], f, d, h => by simp [lookD] at h
  | k :: ks, d' :: l, f, d, h => by
    simp only [lookD] at h
    by_cases q : f = k
    · rw [q]; exact List.mem_cons_self
    · rw [if_neg q] at h; exact List.mem_cons_of_mem _ (lookD_mem h)
theorem pd_fld {f : Str} (ha : PDw X Y a fa) (hb : attributeBase a f X.env (eval a X.env) = eval a X.env := by rfl) : PD X Y (.Attribute a f pos) (e1 (oFld f) fa) := fun k => by
  refine impPE (pe_fld (ha k) hb) fun σ H Q h => ?_
  refine un_imp (r := fun x H1 Q => ∃ a C dx fs v, x = .ref a ∧ H1 a = some (.ins C dx fs) ∧ Cls X.K C ∧ NoAttr X.K C f ∧ fs.lookup f = some v ∧ Q v H1) (fun Z H x dx Q zt rx q => ?_) σ H Q h
  unfold oFld at q
  split at q
  · rename_i c ks l
    obtain ⟨p, dx, vs, rfl, hp, ⟨hl, hc, hf⟩, r1⟩ := rx
    have w := look_fld f hl r1
    cases e : lookD ks l f with
    | none => rw [e] at q; exact q.elim
    | some d =>
      rw [e] at q w
      obtain ⟨v, e1, e2⟩ := w
      have hin : f ∈ ks := lookD_mem e
      rw [k.K]
      exact ⟨p, Y.G.cm c, dx, _, v, rfl, hp, Y.G.cls c hc, Y.G.noat c f hc (hf f hin), e1, q _ H (Same.refl H) e2⟩
  · exact q.elim
def XPost (Y : Cy) (O : Addr → Prop) (σ : L2.St) (H : Hp) (Q : Option Int → Hp → Prop) : R (Option Int) → Prop
  | .ok d => ∀ H', Same H H' → Q d H'
  | .ex e => ∀ c od H', Same H H' → ExRep Y.G (Zo Y.Ze O) H' e c od → Y.E c od σ H'
  | .no => False
def tDX (Y : Cy) (f : DO) : TO := fun σ H Q => ∃ O ρ, SR Y O ρ σ H ∧ XPost Y O σ H Q (f ρ)
def PDX (X : Cx) (Y : Cy) (e : Option Expr) (f : DO) : Prop := Lk X Y → PO X e (tDX Y f)
theorem impPO {X : Cx} {e : Option Expr} {t t' : TO} (h : PO X e t) (i : ∀ σ H Q, t' σ H Q → t σ H Q) : PO X e t' := ⟨fun pins s σ H Q I q => h.run pins s σ H Q I (i σ H Q q)⟩
theorem px_none : PDX X Y none xNone := fun k => impPO po_none fun σ H Q ⟨O, ρ, s, q⟩ => q H (Same.refl H)
theorem px_some (ha : PDw X Y a fa) : PDX X Y (some a) (xSome fa) := fun k => impPO (po_some (ha k)) fun σ H Q ⟨O, ρ, s, q⟩ => by
  refine ⟨O, ρ, s, ?_⟩
  unfold xSome at q
  cases ea : fa ρ with
  | ex e => rw [ea] at q; exact q
  | no => rw [ea] at q; exact q
  | ok dx =>
    rw [ea] at q
    intro x H1 s1 rx
    cases dx with
    | int i => exact ⟨i, rx, q H1 s1⟩
    | _ => exact q.elim
theorem sIx_eq (n d : Nat) (o : Option Int) : HT.sIx n d o = sIxD n d o := by cases o <;> rfl
theorem cutV_rep {G : Gc} {Z : Addr → Prop} {H : Hp} {l : List D} {vs : List V} (r : RepL G Z H l vs) (lo hi : Option Int) : RepL G Z H (cutD l lo hi) (cutV vs lo hi) := by
  unfold cutD cutV
  simp only [sIx_eq, r.length]
  exact (r.drop _).take _
theorem o_sl (G : Gc) (Z : Addr → Prop) (H : Hp) (x : V) (lo hi : Option Int) (dx : D) (Q : VK) (zt : ∀ a, Z a → H a ≠ none) (rx : RepW G Z H dx x) (h : OPost G Z H Q (oSl lo hi dx)) :
    rSlL G.K x lo hi H Q ∨ (rSlA G.K x lo hi H Q ∨ rSlS x lo hi H Q) := by
  unfold oSl at h
  split at h
  · rename_i l
    obtain ⟨p, vs, rfl, hp, r1⟩ := rx
    exact .inl ⟨p, vs, rfl, SqL.of hp, fun n hn => h _ _ (same_new hn) ⟨n, _, rfl, fun z => zt n z hn, upd_same, (cutV_rep r1 lo hi).same (same_new hn)⟩⟩
  · rename_i l
    have rx' := rx
    obtain ⟨p, vs, rfl, hp, r1⟩ := rep_tup rx
    refine .inr (.inl ⟨p, vs, rfl, hp, fun w => ?_, fun w n hn => h _ _ (same_new hn) ⟨n, _, rfl, .inl ⟨fun z => zt n z hn, upd_same⟩, (cutV_rep r1 lo hi).same (same_new hn)⟩⟩)
    have e : cutD l lo hi = l := by
      unfold cutD
      simp only [sIx_eq, ← r1.length] at w
      rw [w.1, w.2]
      simp
    rw [e] at h
    exact h _ H (Same.refl H) rx'
  · rename_i s
    split at h
    · rename_i hl
      refine .inr (.inr ⟨s, rx, by rw [lineD_eq]; exact hl, ?_⟩)
      have e : cutS s lo hi = ⟨(cutD s.cps.toList lo hi).toArray⟩ := by
        unfold cutS cutD
        simp only [sIx_eq]
        rfl
      rw [e]
      exact h _ H (Same.refl H) rfl
    · exact h.elim
  · exact h.elim
theorem pd_slice {lo hi : Option Expr} {fl fh : DO} (ha : PDw X Y a fa) (hl : PDX X Y lo fl) (hh : PDX X Y hi fh) : PD X Y (.Subscript a (.Slice lo hi none p2) pos) (eSl fa fl fh) := fun k => by
  refine impPE (pe_slice (sl_list.or (sl_tupA.or sl_str)) (ha k) (hl k) (hh k)) fun σ H Q h => ?_
  obtain ⟨O, ρ, s, q⟩ := h
  refine ⟨O, ρ, s, ?_⟩
  unfold eSl at q
  cases ea : fa ρ with
  | ex e => rw [ea] at q; exact q
  | no => rw [ea] at q; exact q
  | ok dx =>
    rw [ea] at q
    simp only [R.bind_ok] at q
    intro x H1 s1 rx
    refine ⟨O, ρ, s.same s1, ?_⟩
    cases eb : fl ρ with
    | ex e => rw [eb] at q; exact ex_fwd s1 q
    | no => rw [eb] at q; exact q
    | ok lo' =>
      rw [eb] at q
      simp only [R.bind_ok] at q
      intro H2 s2
      refine ⟨O, ρ, (s.same s1).same s2, ?_⟩
      cases ec : fh ρ with
      | ex e => rw [ec] at q; exact ex_fwd (s1.trans s2) q
      | no => rw [ec] at q; exact q
      | ok hi' =>
        rw [ec] at q
        simp only [R.bind_ok] at q
        intro H3 s3
        have s13 := s1.trans (s2.trans s3)
        rw [k.K]
        refine o_sl Y.G _ H3 x lo' hi' dx Q ((s.same s13).zt) (rx.same (s2.trans s3)) ?_
        cases eg : oSl lo' hi' dx with
        | none => rw [eg] at q; exact q
        | some d => rw [eg] at q; exact fun v H4 s4 rv => q v H4 (s13.trans s4) rv
theorem da_nil : PDA X Y [] aNil := fun k => impPA pa_nil fun σ H Q ⟨O, ρ, s, q⟩ => q [] H (Same.refl H) rfl
theorem da_cons {es : List Expr} {fs : DA} (ha : PD X Y a fa) (hr : PDA X Y es fs) (hs : starEach (a :: es) X.env = (false, eval a X.env) :: starEach es X.env := by rfl) : PDA X Y (a :: es) (aCons fa fs) := fun k => impPA (pa_cons (ha k) (hr k) hs) fun σ H Q ⟨O, ρ, s, q⟩ => by
  refine ⟨O, ρ, s, ?_⟩
  unfold aCons at q
  cases ea : fa ρ with
  | ex e => rw [ea] at q; exact q
  | no => rw [ea] at q; exact q
  | ok dx =>
    rw [ea] at q
    simp only [R.bind_ok] at q
    intro x H1 s1 rx
    refine ⟨O, ρ, s.same s1, ?_⟩
    cases eb : fs ρ with
    | ex e => rw [eb] at q; exact ex_fwd s1 q
    | no => rw [eb] at q; exact q
    | ok ds =>
      rw [eb] at q
      intro vs H2 s2 rs
      exact q _ H2 (s1.trans s2) (RepL.cons (rx.same s2) rs)
theorem arg_imp {fs : DA} {g : List D → Option D} {r : List V → Hp → VK → Prop} (ho : ∀ Z H vs ds Q, (∀ a, Z a → H a ≠ none) → RepL Y.G Z H ds vs → OPost Y.G Z H Q (g ds) → r vs H Q) (σ : L2.St) (H : Hp) (Q : VK)
    (h : tD Y (fun ρ => (fs ρ).bind fun xs => R.of (g xs)) σ H Q) : tDA Y fs σ H (fun vs H1 => r vs H1 Q) := by
  obtain ⟨O, ρ, s, q⟩ := h
  refine ⟨O, ρ, s, ?_⟩
  have q : EPost Y O σ H Q ((fs ρ).bind fun xs => R.of (g xs)) := q
  cases ea : fs ρ with
  | ex e => rw [ea] at q; exact q
  | no => rw [ea] at q; exact q
  | ok ds =>
    rw [ea] at q
    simp only [R.bind_ok] at q
    intro vs H1 s1 rs
    refine ho _ H1 vs ds Q ((s.same s1).zt) rs ?_
    cases eg : g ds with
    | none => rw [eg] at q; exact q
    | some d => rw [eg] at q; exact fun v H4 s4 rv => q v H4 (s1.trans s4) rv
theorem eTup_of (fs : DA) : eTup fs = fun ρ => (fs ρ).bind fun xs => R.of (if xs.length ≤ lineD then some (.tup xs) else none) := by
  funext ρ
  unfold eTup
  congr 1
  funext xs
  split <;> rfl
theorem eLst_of (fs : DA) : eLst fs = fun ρ => (fs ρ).bind fun xs => R.of (if xs.length ≤ lineD then some (.lst xs) else none) := by
  funext ρ
  unfold eLst
  congr 1
  funext xs
  split <;> rfl
theorem pd_tup {es : List Expr} {fs : DA} {x1 : Nat} (ha : PDA X Y es fs) : PD X Y (.Tuple es x1 pos) (eTup fs) := fun k => by
  rw [eTup_of]
  refine impPE (pe_tup (ha k)) fun σ H Q h => arg_imp (r := fun xs H1 Q => xs.length ≤ sizeLine ∧ ∀ p, H1 p = none → Q (.ref p) (upd H1 p (.tup xs))) (fun Z H vs ds Q zt rs q => ?_) σ H Q h
  split at q
  · rename_i hl
    exact ⟨by rw [lineD_eq, ← rs.length]; exact hl, fun n hn => q _ _ (same_new hn) ⟨n, _, rfl, .inl ⟨fun z => zt n z hn, upd_same⟩, rs.same (same_new hn)⟩⟩
  · exact q.elim
theorem pd_lst {es : List Expr} {fs : DA} (ha : PDA X Y es fs) : PD X Y (.List es pos) (eLst fs) := fun k => by
  rw [eLst_of]
  refine impPE (pe_lst (ha k)) fun σ H Q h => arg_imp (r := fun xs H1 Q => xs.length ≤ sizeLine ∧ ∀ p, H1 p = none → Q (.ref p) (upd H1 p (.lst xs))) (fun Z H vs ds Q zt rs q => ?_) σ H Q h
  split at q
  · rename_i hl
    exact ⟨by rw [lineD_eq, ← rs.length]; exact hl, fun n hn => q _ _ (same_new hn) ⟨n, _, rfl, fun z => zt n z hn, upd_same, rs.same (same_new hn)⟩⟩
  · exact q.elim
end
end Tw

set_option maxHeartbeats 2000000
namespace Tw
open PySem PySem.Spec L2
open PyProof.Rows hiding St
section
variable {X : Cx} {Y : Cy} {a b c e : Expr} {fa fb fc : DE} {pos p p2 : Pos} {x : Str} {id T : String}
def Cb1 (G : Gc) (r : List V → Hp → VK → Prop) (g : D → Option D) : Prop := ∀ (Z : Addr → Prop) (H : Hp) (x : V) (dx : D) (Q : VK), (∀ a, Z a → H a ≠ none) → RepW G Z H dx x → OPost G Z H Q (g dx) → r [x] H Q
theorem pd_b1 {r : List V → Hp → VK → Prop} {g : D → Option D} (hc : Lk X Y → CallR X (.builtin id) r) (ho : X.K = Y.G.K → Cb1 Y.G r g) (hv : bootBuiltins x = some (.builtin id)) (hg : Gl X x) (hm : X.mg x = none) (ha : PDw X Y a fa) (hn : x ≠ "__name__" := by decide) (hdb : (x == ("__debug__" : Str)) = false := by decide)
    (hs : starEach (a :: []) X.env = (false, eval a X.env) :: starEach [] X.env := by rfl) (hpl : (backTo pos (starEach [] X.env)).any (·.1) = false := by rfl) :
    PD X Y (.Call (.Name x p) [a] [] pos) (e1 g fa) := fun k => by
  refine impPE (pe_callB (hc k) hg hm hv (pa_cons (ha k) pa_nil hs) hn hdb (he := hs) (hpl := hpl)) fun σ H Q h => ?_
  exact un_imp (r := fun x H1 Q => r [x] H1 Q) (fun Z H x dx Q zt rx q => ho k.K Z H x dx Q zt rx q) σ H Q h
theorem pd_t1 {r : List V → Hp → VK → Prop} {g : D → Option D} (hc : Lk X Y → CallR X (.type T) r) (ho : X.K = Y.G.K → Cb1 Y.G r g) (hv : bootBuiltins x = some (.type T)) (hg : Gl X x) (hm : X.mg x = none) (ha : PDw X Y a fa) (hn : x ≠ "__name__" := by decide) (hdb : (x == ("__debug__" : Str)) = false := by decide)
    (hs : starEach (a :: []) X.env = (false, eval a X.env) :: starEach [] X.env := by rfl) (hpl : (backTo pos (starEach [] X.env)).any (·.1) = false := by rfl) :
    PD X Y (.Call (.Name x p) [a] [] pos) (e1 g fa) := fun k => by
  refine impPE (pe_callTy (hc k) hg hm hv (pa_cons (ha k) pa_nil hs) hn hdb (he := hs) (hpl := hpl)) fun σ H Q h => ?_
  exact un_imp (r := fun x H1 Q => r [x] H1 Q) (fun Z H x dx Q zt rx q => ho k.K Z H x dx Q zt rx q) σ H Q h
theorem cb_len (G : Gc) : Cb1 G (fun xs H Q => ∃ x n, xs = [x] ∧ LenV G.K x H n ∧ Q (.int n) H) oLen := by
  intro Z H x dx Q zt rx q
  unfold oLen at q
  split at q
  · obtain ⟨p, vs, rfl, hp, r1⟩ := rx
    exact ⟨_, vs.length, rfl, .inl ⟨vs, SqL.of hp, rfl⟩, by rw [← r1.length]; exact q _ H (Same.refl H) rfl⟩
  · obtain ⟨p, vs, rfl, hp, r1⟩ := rep_tup rx
    exact ⟨_, vs.length, rfl, .inr ⟨vs, hp, rfl⟩, by rw [← r1.length]; exact q _ H (Same.refl H) rfl⟩
  · rename_i l
    obtain ⟨p, rfl, hp⟩ := rep_scr rx
    exact ⟨_, (l.map V.int).length, rfl, .inl ⟨_, hp, rfl⟩, by rw [List.length_map]; exact q _ H (Same.refl H) rfl⟩
  · rename_i s
    split at q
    · rename_i hl
      obtain rfl : x = .str s := rx
      exact ⟨_, s.length, rfl, ⟨by rw [lineD_eq]; exact hl, rfl⟩, q _ H (Same.refl H) rfl⟩
    · exact q.elim
  · exact q.elim
theorem pd_len (hg : Gl X "len") (hm : X.mg "len" = none) (ha : PDw X Y a fa) (hs : starEach (a :: []) X.env = (false, eval a X.env) :: starEach [] X.env := by rfl) : PD X Y (.Call (.Name "len" p) [a] [] pos) (e1 oLen fa) :=
  pd_b1 (fun _ => call_len) (fun k => by rw [k]; exact cb_len _) PySem.boot_len hg hm ha (hs := hs)
theorem pd_int' (hg : Gl X "int") (hm : X.mg "int" = none) (ha : PDw X Y a fa) (hs : starEach (a :: []) X.env = (false, eval a X.env) :: starEach [] X.env := by rfl) : PD X Y (.Call (.Name "int" p) [a] [] pos) (e1 oInt fa) :=
  pd_t1 (fun _ => call_int1) (fun k Z H x dx Q zt rx q => by
    unfold oInt at q
    split at q
    · exact .inl ⟨_, by rw [show x = _ from rx], q _ H (Same.refl H) rfl⟩
    · exact .inr ⟨_, by rw [show x = _ from rx], q _ H (Same.refl H) rfl⟩
    · exact q.elim) (by decide +kernel) hg hm ha (hs := hs)
theorem pd_abs (hg : Gl X "abs") (hm : X.mg "abs" = none) (ha : PDw X Y a fa) (hs : starEach (a :: []) X.env = (false, eval a X.env) :: starEach [] X.env := by rfl) : PD X Y (.Call (.Name "abs" p) [a] [] pos) (e1 oAbs fa) :=
  pd_b1 (fun _ => call_abs) (fun k Z H x dx Q zt rx q => by
    unfold oAbs at q
    split at q
    · exact ⟨_, by rw [show x = _ from rx], q _ H (Same.refl H) rfl⟩
    · exact q.elim) (by decide +kernel) hg hm ha (hs := hs)
theorem intsD_rep {G : Gc} {Z : Addr → Prop} {H : Hp} : ∀ {l : List D} {vs : List V} {ns : List Int}, RepL G Z H l vs → intsD l = some ns → vs = ns.map V.int
  | [], vs, ns, r, h => by
    cases h
    exact r
  | d :: l, vs, ns, r, h => by
    obtain ⟨v, w, rfl, r1, r2⟩ := r
    cases d with
    | int i =>
      obtain ⟨ms, e1, e2⟩ := Option.map_eq_some_iff.mp h
      subst e2
      rw [List.map_cons, ← intsD_rep r2 e1, show v = .int i from r1]
    | _ => cases h
theorem blsD_rep {G : Gc} {Z : Addr → Prop} {H : Hp} : ∀ {l : List D} {vs : List V} {ns : List Bool}, RepL G Z H l vs → blsD l = some ns → vs = ns.map V.bl
  | [], vs, ns, r, h => by
    cases h
    exact r
  | d :: l, vs, ns, r, h => by
    obtain ⟨v, w, rfl, r1, r2⟩ := r
    cases d with
    | bl i =>
      obtain ⟨ms, e1, e2⟩ := Option.map_eq_some_iff.mp h
      subst e2
      rw [List.map_cons, ← blsD_rep r2 e1, show v = .bl i from r1]
    | _ => cases h
theorem pd_sum (hg : Gl X "sum") (hm : X.mg "sum" = none) (ha : PDw X Y a fa) (hs : starEach (a :: []) X.env = (false, eval a X.env) :: starEach [] X.env := by rfl) (hca : Y.ca = true := by rfl) : PD X Y (.Call (.Name "sum" p) [a] [] pos) (e1 oSum fa) :=
  pd_b1 (fun k => cr_sum (k.calm hca)) (fun k Z H x dx Q zt rx q => by
    rw [k]
    unfold oSum at q
    split at q
    · rename_i l
      obtain ⟨p, vs, rfl, hp, r1⟩ := rx
      cases e : intsD l with
      | none => rw [e] at q; exact q.elim
      | some ns =>
        rw [e] at q
        rw [intsD_rep r1 e] at hp
        exact ⟨p, ns, rfl, SqL.of hp, q _ H (Same.refl H) rfl⟩
    · rename_i l
      obtain ⟨p, rfl, hp⟩ := rep_scr rx
      exact ⟨p, l, rfl, hp, q _ H (Same.refl H) rfl⟩
    · exact q.elim) (by decide +kernel) hg hm ha (hs := hs)
theorem pd_all (hg : Gl X "all") (hm : X.mg "all" = none) (ha : PDw X Y a fa) (hs : starEach (a :: []) X.env = (false, eval a X.env) :: starEach [] X.env := by rfl) (hca : Y.ca = true := by rfl) : PD X Y (.Call (.Name "all" p) [a] [] pos) (e1 oAll fa) :=
  pd_b1 (fun k => cr_all (k.calm hca)) (fun k Z H x dx Q zt rx q => by
    rw [k]
    unfold oAll at q
    split at q
    · rename_i l
      obtain ⟨p, vs, rfl, hp, r1⟩ := rx
      cases e : blsD l with
      | none => rw [e] at q; exact q.elim
      | some ns =>
        rw [e] at q
        rw [blsD_rep r1 e] at hp
        exact ⟨p, ns, rfl, SqL.of hp, q _ H (Same.refl H) rfl⟩
    · exact q.elim) (by decide +kernel) hg hm ha (hs := hs)
theorem pd_list (hg : Gl X "list") (hm : X.mg "list" = none) (ha : PDw X Y a fa) (hs : starEach (a :: []) X.env = (false, eval a X.env) :: starEach [] X.env := by rfl) : PD X Y (.Call (.Name "list" p) [a] [] pos) (e1 oList fa) :=
  pd_t1 (fun k => call_list_of) (fun k Z H x dx Q zt rx q => by
    rw [k]
    unfold oList at q
    split at q
    · obtain ⟨p, vs, rfl, hp, r1⟩ := rx
      exact ⟨p, vs, rfl, .inl (SqL.of hp), fun n hn => q _ _ (same_new hn) ⟨n, _, rfl, fun z => zt n z hn, upd_same, r1.same (same_new hn)⟩⟩
    · obtain ⟨p, vs, rfl, hp, r1⟩ := rep_tup rx
      exact ⟨p, vs, rfl, .inr hp, fun n hn => q _ _ (same_new hn) ⟨n, _, rfl, fun z => zt n z hn, upd_same, r1.same (same_new hn)⟩⟩
    · exact q.elim) (by decide +kernel) hg hm ha (hs := hs)
theorem pd_tuple (hg : Gl X "tuple") (hm : X.mg "tuple" = none) (ha : PDw X Y a fa) (hs : starEach (a :: []) X.env = (false, eval a X.env) :: starEach [] X.env := by rfl) : PD X Y (.Call (.Name "tuple" p) [a] [] pos) (e1 oTuple fa) :=
  pd_t1 (fun k => call_tuple_of) (fun k Z H x dx Q zt rx q => by
    rw [k]
    unfold oTuple at q
    split at q
    · obtain ⟨p, vs, rfl, hp, r1⟩ := rx
      exact ⟨p, vs, rfl, .inl ⟨SqL.of hp, fun n hn => q _ _ (same_new hn) ⟨n, _, rfl, .inl ⟨fun z => zt n z hn, upd_same⟩, r1.same (same_new hn)⟩⟩⟩
    · have rx' := rx
      obtain ⟨p, vs, rfl, hp, r1⟩ := rep_tup rx
      exact ⟨p, vs, rfl, .inr ⟨hp, q _ H (Same.refl H) rx'⟩⟩
    · exact q.elim) (by decide +kernel) hg hm ha (hs := hs)
theorem oIsi_kit {G : Gc} {Z : Addr → Prop} {H : Hp} {t : String} {x : V} {dx d : D} (rx : RepW G Z H dx x) (h : oIsi t dx = some d) : ∃ (n : String) (b : Bool), d = .bl b ∧ TyX G.K H x (.type n) ∧ PySem.W.kitOne G.K (.type n) (.type t) = some b := by
  have key : ∀ (n : String) (hx : TyX G.K H x (.type n)) (b : Bool), kitB n t = some b → D.bl b = d → ∃ (n : String) (b : Bool), d = .bl b ∧ TyX G.K H x (.type n) ∧ PySem.W.kitOne G.K (.type n) (.type t) = some b :=
    fun n hx b hk e => ⟨n, b, e.symm, hx, kit_ty hk⟩
  unfold oIsi at h
  split at h
  · have hx : TyX G.K H x (.type "bool") := by rw [show x = _ from rx]; exact .base (.bl _)
    split at h
    · rename_i ht
      rcases ht with rfl | rfl <;> exact key _ hx true (by decide +kernel) (Option.some.inj h)
    · split at h
      · rename_i ht
        rcases ht with rfl | rfl | rfl <;> exact key _ hx false (by decide +kernel) (Option.some.inj h)
      · cases h
  · have hx : TyX G.K H x (.type "int") := by rw [show x = _ from rx]; exact .base (.int _)
    split at h
    · rename_i ht
      subst ht
      exact key _ hx true (by decide +kernel) (Option.some.inj h)
    · split at h
      · rename_i ht
        rcases ht with rfl | rfl | rfl | rfl <;> exact key _ hx false (by decide +kernel) (Option.some.inj h)
      · cases h
  · have hx : TyX G.K H x (.type "str") := by rw [show x = _ from rx]; exact .base (.str _)
    split at h
    · rename_i ht
      subst ht
      exact key _ hx true (by decide +kernel) (Option.some.inj h)
    · split at h
      · rename_i ht
        rcases ht with rfl | rfl | rfl | rfl <;> exact key _ hx false (by decide +kernel) (Option.some.inj h)
      · cases h
  · have hx : TyX G.K H x (.type "tuple") := by
      obtain ⟨a, vs, rfl, t, r⟩ := rx
      rcases t with ⟨_, t⟩ | ⟨o, its, n, e, c, _⟩
      · exact .base (.tup t)
      · exact .kTuple e c
    split at h
    · rename_i ht
      subst ht
      exact key _ hx true (by decide +kernel) (Option.some.inj h)
    · split at h
      · rename_i ht
        rcases ht with rfl | rfl | rfl | rfl <;> exact key _ hx false (by decide +kernel) (Option.some.inj h)
      · cases h
  · have hx : TyX G.K H x (.type "list") := by
      obtain ⟨a, vs, rfl, t, r⟩ := rx
      exact .base (.lst t)
    split at h
    · rename_i ht
      subst ht
      exact key _ hx true (by decide +kernel) (Option.some.inj h)
    · split at h
      · rename_i ht
        rcases ht with rfl | rfl | rfl | rfl <;> exact key _ hx false (by decide +kernel) (Option.some.inj h)
      · cases h
  · have hx : TyX G.K H x (.type "NoneType") := by rw [show x = _ from rx]; exact .base .non
    split at h
    · rename_i ht
      rcases ht with rfl | rfl | rfl | rfl | rfl <;> exact key _ hx false (by decide +kernel) (Option.some.inj h)
    · cases h
  · cases h
/-- isinstance(x, T), T a built-in class -/
theorem pd_isi (t : String) {x : Str} (hg : Gl X "isinstance") (hm : X.mg "isinstance" = none) (ha : PDw X Y a fa) (hg2 : Gl X x) (hm2 : X.mg x = none) (hv2 : bootBuiltins x = some (.type t))
    (hs : starEach (a :: [.Name x p2]) X.env = (false, eval a X.env) :: starEach [.Name x p2] X.env := by rfl) (hs2 : starEach (.Name x p2 :: []) X.env = (false, eval (.Name x p2) X.env) :: starEach [] X.env := by rfl)
    (hpl : (backTo pos (starEach [.Name x p2] X.env)).any (·.1) = false := by rfl) (hn : x ≠ "__name__" := by decide) (hdb : (x == ("__debug__" : Str)) = false := by decide) : PD X Y (.Call (.Name "isinstance" p) [a, .Name x p2] [] pos) (e1 (oIsi t) fa) := fun k => by
  refine impPE (pe_callB call_isi hg hm (by decide +kernel) (pa_cons (ha k) (pa_cons (pe_bltn (v := .ty t) hg2 hm2 hv2 rfl hn hdb) pa_nil hs2) hs) (he := hs) (hpl := hpl)) fun σ H Q h => ?_
  refine un_imp (r := fun x H1 Q => rIsi X.K [x, .ty t] H1 Q) (fun Z H x dx Q zt rx q => ?_) σ H Q h
  cases e : oIsi t dx with
  | none => rw [e] at q; exact q.elim
  | some d =>
    rw [e] at q
    obtain ⟨n, b, rfl, hx, hk⟩ := oIsi_kit rx e
    rw [k.K]
    exact ⟨x, .ty t, .type n, .type t, b, rfl, .ty t, hx, hk, q _ H (Same.refl H) rfl⟩
end
section
variable {X : Cx} {Y : Cy} {a b c e : Expr} {fa fb fc : DE} {ga gb : DT} {pos p p2 : Pos}
theorem tval_imp (σ : L2.St) (H : Hp) (Q : Bool → Hp → Prop) (h : tDT Y (tVal fa) σ H Q) : tD Y fa σ H (fun x H1 => ∃ c, x = .bl c ∧ Q c H1) := by
  obtain ⟨O, ρ, s, q⟩ := h
  refine ⟨O, ρ, s, ?_⟩
  unfold tVal at q
  cases ea : fa ρ with
  | ex e => rw [ea] at q; exact q
  | no => rw [ea] at q; exact q
  | ok dx =>
    rw [ea] at q
    intro x H1 s1 rx
    cases dx with
    | bl k => exact ⟨k, rx, q H1 s1⟩
    | _ => exact q.elim
theorem pt_cm {op : CmpOp} {r : R2} {g : D → D → Option D} (hr : Lk X Y → OpR X (compareOp op) r) (ho : X.K = Y.G.K → Op2 Y.G r g) (ha : PDw X Y a fa) (hb : PDw X Y b fb) (hm : behindInMarks op b = false) : PDT X Y (.Compare a [op] [b] pos) (tVal (e2 g fa fb)) := fun k =>
  impPT (pt_cmpR (hr k) (ha k) (hb k) hm) fun σ H Q h => by
    have h1 := tval_imp σ H Q h
    exact bin_imp (ho k.K) σ H _ h1
theorem pt_lt (ha : PDw X Y a fa) (hb : PDw X Y b fb) : PDT X Y (.Compare a [.Lt] [b] pos) (tVal (e2 oLt fa fb)) := pt_cm (fun _ => op_lt) (fun _ => o2_lt _) ha hb (nomark _)
theorem pt_gt (ha : PDw X Y a fa) (hb : PDw X Y b fb) : PDT X Y (.Compare a [.Gt] [b] pos) (tVal (e2 oGt fa fb)) := pt_cm (fun _ => op_gt) (fun _ => o2_gt _) ha hb (nomark _)
theorem pt_ge (ha : PDw X Y a fa) (hb : PDw X Y b fb) : PDT X Y (.Compare a [.GtE] [b] pos) (tVal (e2 oGe fa fb)) := pt_cm (fun _ => op_ge) (fun _ => o2_ge _) ha hb (nomark _)
theorem pt_eq (ha : PDw X Y a fa) (hb : PDw X Y b fb) : PDT X Y (.Compare a [.Eq] [b] pos) (tVal (e2 oEq fa fb)) :=
  pt_cm (r := rEqA X.K) (fun k => op_eq.or (op_eqD (hu64 k.rm))) (fun k => by rw [k]; exact o2_eq _) ha hb (nomark _)
theorem pt_ne (ha : PDw X Y a fa) (hb : PDw X Y b fb) : PDT X Y (.Compare a [.NotEq] [b] pos) (tVal (e2 oNe fa fb)) :=
  pt_cm (r := rNeA X.K) (fun k => op_ne.or (op_neD (hu64 k.rm))) (fun k => by rw [k]; exact o2_ne _) ha hb (nomark _)
theorem pt_in (ha : PDw X Y a fa) (hb : PDw X Y b fb) (hm : behindInMarks .In b = false := by rfl) : PDT X Y (.Compare a [.In] [b] pos) (tVal (e2 oIn fa fb)) :=
  pt_cm (r := rInA X.K) (fun k => op_in_sign.or (op_in_seq.or ((op_inD (hu65 k.rm)).or (op_in_dict k.rm)))) (fun k => by rw [k]; exact o2_in _) ha hb hm
theorem pt_notin (ha : PDw X Y a fa) (hb : PDw X Y b fb) (hm : behindInMarks .NotIn b = false := by rfl) : PDT X Y (.Compare a [.NotIn] [b] pos) (tVal (e2 oNotIn fa fb)) :=
  pt_cm (r := rNInA X.K) (fun k => op_notIn_sign.or (op_notIn_seq.or ((op_notInD (hu65 k.rm)).or (op_notin_dict k.rm)))) (fun k => by rw [k]; exact o2_notin _) ha hb hm
theorem tru_rep {G : Gc} {Z : Addr → Prop} {H : Hp} {x : V} {dx : D} {k : Bool} (rx : RepW G Z H dx x) (h : truD dx = some k) : TruV G.K x H k := by
  unfold truD at h
  split at h
  · obtain rfl : x = .non := rx; exact (Option.some.inj h).symm
  · rename_i b; obtain rfl : x = .bl b := rx; exact (Option.some.inj h).symm
  · rename_i b; obtain rfl : x = .int b := rx; exact (Option.some.inj h).symm
  · rename_i b
    split at h
    · rename_i hl
      obtain rfl : x = .str b := rx; exact ⟨by rw [lineD_eq]; exact hl, (Option.some.inj h).symm⟩
    · cases h
  · obtain ⟨p, vs, rfl, hp, r1⟩ := rx
    exact .inl ⟨vs, SqL.of hp, by rw [← isEmpty_len r1.length]; exact (Option.some.inj h).symm⟩
  · obtain ⟨p, vs, rfl, hp, r1⟩ := rep_tup rx
    exact .inr (.inl ⟨vs, hp, by rw [← isEmpty_len r1.length]; exact (Option.some.inj h).symm⟩)
  · obtain ⟨p, vs, rfl, hp, hl, r1⟩ := rx
    exact .inr (.inr ⟨_, hp, by rw [isEmpty_sKeys hl]; exact (Option.some.inj h).symm⟩)
  · cases h
theorem pt_tru (ha : PDw X Y a fa) (he : ∀ whole, isTrue a X.env whole = (do let v ← whole; standAt a.pos; holding [v] (truthy v)) := by intro _; rfl) : PDT X Y a (tTru fa) := fun k => impPT (pt_truth (ha k) he) fun σ H Q h => by
  obtain ⟨O, ρ, s, q⟩ := h
  refine ⟨O, ρ, s, ?_⟩
  unfold tTru at q
  cases ea : fa ρ with
  | ex e => rw [ea] at q; exact q
  | no => rw [ea] at q; exact q
  | ok dx =>
    rw [ea] at q
    simp only [R.bind_ok] at q
    intro x H1 s1 rx
    cases e : truD dx with
    | none => rw [e] at q; exact q.elim
    | some kk =>
      rw [e] at q
      rw [k.K]
      exact ⟨kk, tru_rep rx e, q H1 s1⟩
theorem BPost.fwd {O : Addr → Prop} {σ : L2.St} {H H1 : Hp} {Q : Bool → Hp → Prop} {r : R Bool} (s : Same H H1) (h : BPost Y O σ H Q r) : BPost Y O σ H1 Q r := by
  cases r with
  | ok d => exact fun H' s' => h H' (s.trans s')
  | ex e => exact ex_fwd s h
  | no => exact h
theorem EPost.fwd {O : Addr → Prop} {σ : L2.St} {H H1 : Hp} {Q : VK} {r : R D} (s : Same H H1) (h : EPost Y O σ H Q r) : EPost Y O σ H1 Q r := by
  cases r with
  | ok d => exact fun v H' s' rv => h v H' (s.trans s') rv
  | ex e => exact ex_fwd s h
  | no => exact h
/-- a test, then something -/
theorem test_then {α : Type} {σ : L2.St} {H : Hp} {ρ : DEnv} {O : Addr → Prop} {P : R α → Prop} {k : Bool → R α} {Q : Bool → Hp → Prop} (s : SR Y O ρ σ H) (he : ∀ e, P (.ex e) → ∀ c od H', Same H H' → ExRep Y.G (Zo Y.Ze O) H' e c od → Y.E c od σ H') (hn : ¬ P .no)
    (h : P ((ga ρ).bind k)) (hq : ∀ b, ga ρ = .ok b → P (k b) → ∀ H1, Same H H1 → Q b H1) : tDT Y ga σ H Q := by
  refine ⟨O, ρ, s, ?_⟩
  cases ea : ga ρ with
  | ex e => rw [ea] at h; exact he e h
  | no => rw [ea] at h; exact hn h
  | ok b => rw [ea] at h; exact fun H1 s1 => hq b ea h H1 s1
theorem pw_and1' (ha : PDT X Y a ga) : PDTw X Y (.BoolOp .And [a] pos) ga := fun k => pw_and1 (ha k)
theorem pw_or1' (ha : PDT X Y a ga) : PDTw X Y (.BoolOp .Or [a] pos) ga := fun k => pw_or1 (ha k)
theorem pw_and' {rest : List Expr} (ha : PDT X Y a ga) (hb : PDTw X Y (.BoolOp .And (b :: rest) pos) gb) : PDTw X Y (.BoolOp .And (a :: b :: rest) pos) (tAndD ga gb) := fun k => impPW (pw_and (ha k) (hb k)) fun σ H Q ⟨O, ρ, s, q⟩ => by
  refine test_then (P := BPost Y O σ H Q) (k := fun k => if k then gb ρ else .ok false) s (fun e h => h) (fun h => h) q fun b eb hp H1 s1 => ?_
  cases b with
  | true => exact ⟨O, ρ, s.same s1, BPost.fwd s1 hp⟩
  | false => exact hp H1 s1
theorem pw_or' {rest : List Expr} (ha : PDT X Y a ga) (hb : PDTw X Y (.BoolOp .Or (b :: rest) pos) gb) : PDTw X Y (.BoolOp .Or (a :: b :: rest) pos) (tOrD ga gb) := fun k => impPW (pw_or (ha k) (hb k)) fun σ H Q ⟨O, ρ, s, q⟩ => by
  refine test_then (P := BPost Y O σ H Q) (k := fun k => if k then .ok true else gb ρ) s (fun e h => h) (fun h => h) q fun b eb hp H1 s1 => ?_
  cases b with
  | true => exact hp H1 s1
  | false => exact ⟨O, ρ, s.same s1, BPost.fwd s1 hp⟩
theorem pt_bo (h : PDTw X Y e ga) : PDT X Y e ga := fun k => (h k).pt
theorem pt_not' (ha : PDT X Y a ga) : PDT X Y (.UnaryOp .Not a pos) (tNotD ga) := fun k => impPT (pt_not (ha k)) fun σ H Q ⟨O, ρ, s, q⟩ => by
  exact test_then (P := BPost Y O σ H Q) (k := fun k => .ok (!k)) s (fun e h => h) (fun h => h) q fun b eb hp H1 s1 => hp H1 s1
theorem pd_one {op : BoolOp} (ha : PD X Y a fa) : PD X Y (.BoolOp op [a] pos) fa := fun k => pe_one (ha k)
theorem pd_or {rest : List Expr} (ha : PD X Y a fa) (hb : PD X Y (.BoolOp .Or (b :: rest) pos) fb) : PD X Y (.BoolOp .Or (a :: b :: rest) pos) (eOr fa fb) := fun k => impPE (pe_or (ha k) (hb k)) fun σ H Q ⟨O, ρ, s, q⟩ => by
  refine ⟨O, ρ, s, ?_⟩
  unfold eOr at q
  cases ea : fa ρ with
  | ex e => rw [ea] at q; exact q
  | no => rw [ea] at q; exact q
  | ok dx =>
    rw [ea] at q
    simp only [R.bind_ok] at q
    intro x H1 s1 rx
    cases dx with
    | bl kk =>
      refine ⟨kk, rx, ?_⟩
      cases kk with
      | false => exact ⟨O, ρ, s.same s1, EPost.fwd s1 q⟩
      | true => exact q _ H1 s1 rfl
    | _ => exact q.elim
end
end Tw

namespace Tw
open PySem
/-- C(.., k = v, ..) by data -/
def eMkK (n m : Nat) (cn : String) (gD : List D → List D → List D) (init : D → List D → R (D × D)) (as ks : DA) : DE := fun ρ => (as ρ).bind fun xs => (ks ρ).bind fun ys => if xs.length = n ∧ ys.length = m then mkD cn init (gD xs ys) else .no
/-- x in o, o an object with its own __contains__ -/
def eRM (c : String) (f : List D → R D) (a o : DE) : DE := fun ρ => (a ρ).bind fun x => (o ρ).bind fun y => match y with
  | .obj c' ks vs => if c' = c then (f [.obj c' ks vs, x]).bind fun r => match r with | .bl b => .ok (.bl b) | _ => .no else .no
  | _ => .no
def eRMn (c : String) (f : List D → R D) (a o : DE) : DE := fun ρ => (a ρ).bind fun x => (o ρ).bind fun y => match y with
  | .obj c' ks vs => if c' = c then (f [.obj c' ks vs, x]).bind fun r => match r with | .bl b => .ok (.bl (!b)) | _ => .no else .no
  | _ => .no
/-- a op b, the class of a with its own method; b is an object of one of the classes cs -/
def eOp (c : String) (cs : List String) (f : List D → R D) (a b : DE) : DE := fun ρ => (a ρ).bind fun x => (b ρ).bind fun y => match x, y with
  | .obj c1 ks vs, .obj c2 ks2 vs2 => if c1 = c ∧ c2 ∈ cs then f [.obj c1 ks vs, .obj c2 ks2 vs2] else .no
  | _, _ => .no
/-- o[t], o an object with its own __getitem__ -/
def eIxO (c : String) (f : List D → R D) (a b : DE) : DE := fun ρ => (a ρ).bind fun x => (b ρ).bind fun y => match x with
  | .obj c' ks vs => if c' = c then f [.obj c' ks vs, y] else .no
  | _ => .no
/-- what a for walks in an object whose __iter__ hands on its field's list -/
def itO (c : String) (f : Str) : D → Option (List D)
  | .obj c' ks vs => if c' = c then (match lookD ks vs f with | some (.lst l) => some l | _ => none) else none
  | _ => none
def iOwn (c : String) (f : Str) (a : DE) : DI := fun ρ => (a ρ).bind fun x => R.of (itO c f x)
end Tw

set_option maxHeartbeats 2000000
namespace Tw
open PySem PySem.Spec L2
open PyProof.Rows hiding St
def DPost (G : Gc) (Ze : Addr → Prop) (H : Hp) (Q : VK) (E : XK) : R D → Prop
  | .ok d => ∀ v H', Same H H' → Rep G Ze H' d v → Q v H'
  | .ex e => ∀ c od H', Same H H' → ExRep G Ze H' e c od → E c od H'
  | .no => False
/-- a def that reads data and gives data -/
def dsp (G : Gc) (den : List D → R D) : Sp := fun vs H Q E => ∃ Ze ds, (∀ a, Ze a → H a ≠ none) ∧ RepL G Ze H ds vs ∧ DPost G Ze H Q E (den ds)
/-- an object of the text's classes at a -/
def ObjAt (G : Gc) (Z : Addr → Prop) (H : Hp) (a : Addr) (s : D) : Prop :=
  ∃ c ks l dx vs, s = .obj c ks l ∧ H a = some (.ins (G.cm c) dx (fKeys ks vs)) ∧ (ks.length = vs.length ∧ OkO G c ks) ∧ RepL G Z H l vs
def IPost (G : Gc) (Ze : Addr → Prop) (a : Addr) (H : Hp) (Q : VK) (E : XK) : R (D × D) → Prop
  | .ok p => ∀ v H', (∀ b o, b ≠ a → H b = some o → H' b = some o) → ObjAt G Ze H' a p.2 → Rep G Ze H' p.1 v → Q v H'
  | .ex e => ∀ c od H', (∀ b o, b ≠ a → H b = some o → H' b = some o) → H' a ≠ none → ExRep G Ze H' e c od → E c od H'
  | .no => False
/-- an __init__ -/
def dspM (G : Gc) (init : D → List D → R (D × D)) : Sp := fun vs H Q E => ∃ Ze a s us ds, vs = .ref a :: us ∧ Ze a ∧ (∀ b, Ze b → H b ≠ none) ∧ ObjAt G Ze H a s ∧ RepL G Ze H ds us ∧ IPost G Ze a H Q E (init s ds)
/-- a def of the text under the name x: its meaning, its level -/
def Fk (P : Program) (w : World) (K : PySem.W.Frag) (mg : Str → Option Value) (base : Heap) (G : Gc) (x : Str) (den : List D → R D) (j : Nat) : Prop :=
  ∃ f fd ps, FnOk P w K mg base (L2.CX P w) j f fd ps (dsp G den) ∧ mg x = some (.ref f) ∧ PySem.W.keepIn K (.ref f) = true ∧ Binds K fd ps []
/-- a method of the class c -/
def Mt (P : Program) (w : World) (K : PySem.W.Frag) (mg : Str → Option Value) (base : Heap) (G : Gc) (c : String) (m : Str) (den : List D → R D) (j : Nat) : Prop :=
  ∃ f fd ps, FnOk P w K mg base (L2.CX P w) j f fd ps (dsp G den) ∧ Meth K (G.cm c) m f ∧ Binds K fd ps [] ∧ m ∉ fldOf c ∧ Cls K (G.cm c)
/-- the making of an object of the class c (the name x), all arguments written -/
def Ck (P : Program) (w : World) (K : PySem.W.Frag) (mg : Str → Option Value) (base : Heap) (G : Gc) (x : Str) (c : String) (init : D → List D → R (D × D)) (j : Nat) : Prop :=
  ∃ f fd ps, FnOk P w K mg base (L2.CX P w) j f fd ps (dspM G init) ∧ Mk K (G.cm c) f ∧ mg x = some (.ref (G.cm c)) ∧ Binds K fd ps [] ∧ G.has c
/-- .. with keywords: n places written, the keywords ks, gD how they come together -/
def CkK (P : Program) (w : World) (K : PySem.W.Frag) (mg : Str → Option Value) (base : Heap) (G : Gc) (x : Str) (c : String) (n : Nat) (ks : List Str) (gD : List D → List D → List D) (init : D → List D → R (D × D)) (j : Nat) : Prop :=
  ∃ (f : Addr) (fd : FuncData) (ps : List Str) (g : List Value → List Value → List Value) (gV : List V → List V → List V), FnOk P w K mg base (L2.CX P w) j f fd ps (dspM G init) ∧ Mk K (G.cm c) f ∧ mg x = some (.ref (G.cm c)) ∧ KBn K fd ps (n + 1) ks g (fun vs zs => match vs with | v :: r => v :: gV r zs | [] => gV [] zs) ∧ G.has c ∧
    ∀ Z H ds es vs us, ds.length = n → es.length = ks.length → RepL G Z H ds vs → RepL G Z H es us → RepL G Z H (gD ds es) (gV vs us)
section
variable {X : Cx} {CX : CXT} {k : Nat} {f C : Addr} {fd : FuncData} {ps : List Str} {sp : Sp} {dvs : List V} {ds : List Value} {E : L2.St → XK} {x m : Str} {p pos apos : Pos} {e o : Expr} {es : List Expr} {ta : TE} {t : TA}
def tMethD (C : Addr) (m : Str) (sp : Sp) (E : L2.St → XK) (ta : TE) (t : TA) : TE := fun σ H Q => ta σ H fun x H1 => ∃ a dx fs, x = .ref a ∧ H1 a = some (.ins C dx fs) ∧ fs.lookup m = none ∧ t σ H1 fun vs H2 => sp (x :: vs) H2 Q (E σ)
theorem run_fn0D {pins : List (Addr × Obj)} {σ : L2.St} {H : Hp} {s : Shared} {Q : VK} {us : List Value} {vs : List V} (F : FnOk X.prog X.w X.K X.mg X.base CX k f fd ps sp) (hr : Room k X.A) (hb : Binds X.K fd ps []) (hx : PassesAt CX X σ (E σ))
    (I : Inv X pins σ H s) (r : Vals vs us) (h : sp vs H Q (E σ)) : wpAny (model X.prog X.w) X.A (call (.ref f) us) (EP X pins σ Q) X.xe s :=
  run_fnSD (dvs := []) (ds := []) F hr hb .nil hx I r (by rw [List.append_nil]; exact h)
theorem pe_methD {pl : Sem Bool} (he : PE X o ta) (c : Cls X.K C) (hm : Meth X.K C m f) (F : FnOk X.prog X.w X.K X.mg X.base CX k f fd ps sp) (hr : Room k X.A) (hb : Binds X.K fd ps []) (hx : ∀ σ, PassesAt CX X σ (E σ)) (ha : PA X (e :: es) t)
    (hst : starEach (e :: es) X.env = (false, eval e X.env) :: starEach es X.env := by rfl) (hpl : (backTo pos (starEach es X.env)).any (·.1) = false := by rfl)
    (ht : eval (.Call (.Attribute o m apos) (e :: es) [] pos) X.env = (do
      let ov ← eval o X.env
      standAt apos.atName
      let (f, first) ← holding [ov] (getMethod ov m pl)
      callWith pos f first (backTo pos (starEach (e :: es) X.env)) (backToKw pos (keywordEach [] X.env))) := by rfl) :
    PE X (.Call (.Attribute o m apos) (e :: es) [] pos) (tMethD C m sp E ta t) := by
  refine ⟨fun pins s σ H Q I h => ?_⟩
  refine PySem.W.methodCall_KW (pl := pl) (thn (he.run pins s σ H _ I h) fun u s1 ⟨x, H1, I1, rx, a, dx, fs, ex, ea, l, q⟩ => ?_) ht
  subst ex
  obtain rfl : u = Value.ref a := rx
  refine getmeth_ok I1 ea c hm l ?_
  refine PySem.W.callWith_K (first := [.ref a]) (h₀ := X.base) I.ok.mod.kin hm.kp (thn (ha.run pos pins s1 σ H1 _ I1 q) fun us s2 ⟨vs, H2, I2, r, q2⟩ => ⟨I2.kIn, ?_⟩) hst hpl
  exact run_fn0D (us := .ref a :: us) (vs := .ref a :: vs) F hr hb (hx σ) I2 (.cons rfl r) q2
def tMakeD (C : Addr) (sp : Sp) (E : L2.St → XK) (t : TA) : TE := fun σ H Q => t σ H fun vs H1 => ∀ x dx, H1 x = none → H1 dx = none → dx ≠ x →
  sp (.ref x :: vs) (upd (upd H1 dx (.own x)) x (.ins C dx [])) (fun v H2 => v = .non ∧ Q (.ref x) H2) (E σ)
theorem run_makeD {pins : List (Addr × Obj)} {σ : L2.St} {H : Hp} {s : Shared} {Q : VK} {us : List Value} {vs : List V} (M : Mk X.K C f) (F : FnOk X.prog X.w X.K X.mg X.base CX k f fd ps sp) (hr : Room (k + 1) X.A) (hb : Binds X.K fd ps [])
    (hx : PassesAt CX X σ (E σ)) (I : Inv X pins σ H s) (r : Vals vs us)
    (h : ∀ x dx, H x = none → H dx = none → dx ≠ x → sp (.ref x :: vs) (upd (upd H dx (.own x)) x (.ins C dx [])) (fun v H2 => v = .non ∧ Q (.ref x) H2) (E σ)) :
    wpAny (model X.prog X.w) X.A (call (.ref C) us) (EP X pins σ Q) X.xe s := by
  have hq := h (s.heap.objs.size + 1) s.heap.objs.size (I.hok.fresh (Nat.le_succ _)) (I.hok.fresh (Nat.le_refl _)) (Nat.ne_of_lt (Nat.lt_succ_self _))
  have I2 := Inv.made (C := C) I
  have r2 : Vals (V.ref (s.heap.objs.size + 1) :: vs) (Value.ref (s.heap.objs.size + 1) :: us) := .cons rfl r
  have hl : (Value.ref (s.heap.objs.size + 1) :: us ++ []).length = ps.length := by
    have e := r2.length
    rw [F.len _ _ _ _ hq] at e
    rw [List.append_nil]
    exact e.symm
  have hb' := hb _ (Value.ref (s.heap.objs.size + 1) :: us) I2.kIn hl
  rw [List.append_nil] at hb'
  refine wpAny_call (make_map (f := f) I.kIn M.makes M.init (beq_iff_eq.mp M.fn) (codeAny_mono (F.run _ X.stack _ _ ⟨Value.ref (s.heap.objs.size + 1) :: us, []⟩ (Value.ref (s.heap.objs.size + 1) :: us) _ _ (E σ) (hr.make C us [])
    (I2.env0.make C us []) hb' r2 hq) fun r s' hq' => ?_))
  cases r with
  | error e => exact hx pins _ _ e s' I2 hq'
  | ok fl =>
    cases fl with
    | ret u =>
      obtain ⟨v, H', I3, rv, ev, q3⟩ := I2.after hq'
      subst ev
      exact ⟨rv, ⟨V.ref (s.heap.objs.size + 1), H', I3, rfl, q3⟩⟩
    | next => exact False.elim hq'
    | brk => exact False.elim hq'
    | cont => exact False.elim hq'
theorem pe_makeD (M : Mk X.K C f) (F : FnOk X.prog X.w X.K X.mg X.base CX k f fd ps sp) (hr : Room (k + 1) X.A) (hg : Gl X x) (hm : X.mg x = some (.ref C)) (hb : Binds X.K fd ps []) (hx : ∀ σ, PassesAt CX X σ (E σ))
    (ha : PA X (e :: es) t) (hdb : (x == ("__debug__" : Str)) = false := by decide) (he : starEach (e :: es) X.env = (false, eval e X.env) :: starEach es X.env := by rfl) (hpl : (backTo pos (starEach es X.env)).any (·.1) = false := by rfl) :
    PE X (.Call (.Name x p) (e :: es) [] pos) (tMakeD C sp E t) := by
  refine ⟨fun pins s σ H Q I h => ?_⟩
  refine wpAny_Call_Name_kw (ld_glob I hg hm ?_ hdb)
  refine PySem.W.callWith_K (h₀ := X.base) I.ok.mod.kin M.kp (thn (ha.run pos pins s σ H _ I h) fun us s1 ⟨vs, H1, I1, r, q⟩ => ⟨I1.kIn, ?_⟩) he hpl
  exact run_makeD M F hr hb (hx σ) I1 r q
def tMakeKD (C : Addr) (n m : Nat) (sp : Sp) (gV : List V → List V → List V) (E : L2.St → XK) (t tk : TA) : TE := fun σ H Q => t σ H fun vs H1 => tk σ H1 fun zs H2 => vs.length = n ∧ zs.length = m ∧ ∀ x dx, H2 x = none → H2 dx = none → dx ≠ x →
  sp (gV (.ref x :: vs) zs) (upd (upd H2 dx (.own x)) x (.ins C dx [])) (fun v H3 => v = .non ∧ Q (.ref x) H3) (E σ)
variable {n : Nat} {ks : List Str} {g : List Value → List Value → List Value} {gV : List V → List V → List V} {kws : List Keyword} {tk : TA}
theorem run_makeKD {pins : List (Addr × Obj)} {σ : L2.St} {H : Hp} {s : Shared} {Q : VK} {us ws : List Value} {vs zs : List V} (M : Mk X.K C f) (F : FnOk X.prog X.w X.K X.mg X.base CX k f fd ps sp) (hr : Room (k + 1) X.A) (hb : KBn X.K fd ps (n + 1) ks g gV) (hx : PassesAt CX X σ (E σ))
    (I : Inv X pins σ H s) (r : Vals vs us) (rz : Vals zs ws) (l1 : vs.length = n) (l2 : zs.length = ks.length)
    (h : ∀ x dx, H x = none → H dx = none → dx ≠ x → sp (gV (.ref x :: vs) zs) (upd (upd H dx (.own x)) x (.ins C dx [])) (fun v H2 => v = .non ∧ Q (.ref x) H2) (E σ)) :
    wpAny (model X.prog X.w) X.A (call (.ref C) us (ks.zip ws)) (EP X pins σ Q) X.xe s := by
  have hq := h (s.heap.objs.size + 1) s.heap.objs.size (I.hok.fresh (Nat.le_succ _)) (I.hok.fresh (Nat.le_refl _)) (Nat.ne_of_lt (Nat.lt_succ_self _))
  have I2 := Inv.made (C := C) I
  have r1 : Vals (V.ref (s.heap.objs.size + 1) :: vs) (Value.ref (s.heap.objs.size + 1) :: us) := .cons rfl r
  have r2 := hb.rel r1 rz
  have n1 : (Value.ref (s.heap.objs.size + 1) :: us).length = n + 1 := by
    rw [List.length_cons, ← r.length, l1]
  refine wpAny_call (make_map (f := f) I.kIn M.makes M.init (beq_iff_eq.mp M.fn) (codeAny_mono (F.run _ X.stack _ _ ⟨Value.ref (s.heap.objs.size + 1) :: us, ks.zip ws⟩ (g (Value.ref (s.heap.objs.size + 1) :: us) ws) _ _ (E σ) (hr.make C us (ks.zip ws))
    (I2.env0.make C us (ks.zip ws)) (hb.to _ (Value.ref (s.heap.objs.size + 1) :: us) ws I2.kIn n1 (rz.length.symm.trans l2)) r2 hq) fun r s' hq' => ?_))
  cases r with
  | error e => exact hx pins _ _ e s' I2 hq'
  | ok fl =>
    cases fl with
    | ret u =>
      obtain ⟨v, H', I3, rv, ev, q3⟩ := I2.after hq'
      subst ev
      exact ⟨rv, ⟨V.ref (s.heap.objs.size + 1), H', I3, rfl, q3⟩⟩
    | next => exact False.elim hq'
    | brk => exact False.elim hq'
    | cont => exact False.elim hq'
theorem pe_makeKD (M : Mk X.K C f) (F : FnOk X.prog X.w X.K X.mg X.base CX k f fd ps sp) (hr : Room (k + 1) X.A) (hg : Gl X x) (hm : X.mg x = some (.ref C)) (hb : KBn X.K fd ps (n + 1) ks g gV) (hx : ∀ σ, PassesAt CX X σ (E σ)) (ha : PA X (e :: es) t) (hkw : PK X kws tk)
    (hall : (backToKw pos (keywordEach kws X.env)).all (·.1.isSome) = true := by rfl) (hks : (backToKw pos (keywordEach kws X.env)).filterMap (·.1) = ks := by rfl) (hdb : (x == ("__debug__" : Str)) = false := by decide)
    (he : starEach (e :: es) X.env = (false, eval e X.env) :: starEach es X.env := by rfl) (hpl : ((backTo pos (starEach (e :: es) X.env)).any (·.1) || (backToKw pos (keywordEach kws X.env)).any (·.1.isNone)) = false := by rfl) :
    PE X (.Call (.Name x p) (e :: es) kws pos) (tMakeKD C n ks.length sp gV E t tk) := by
  refine ⟨fun pins s σ H Q I h => ?_⟩
  refine wpAny_Call_Name_kw (ld_glob I hg hm ?_ hdb)
  refine PySem.W.callWith_KW (h₀ := X.base) I.ok.mod.kin M.kp hall (thn (ha.run pos pins s σ H _ I h) fun us s1 ⟨vs, H1, I1, r, q⟩ => ?_) hpl he
  refine thn (hkw.run pos pins s1 σ H1 _ I1 q) fun ws s2 ⟨zs, H2, I2, rz, l1, l2, q2⟩ => ⟨I2.kIn, ?_⟩
  rw [hks]
  exact run_makeKD M F hr hb (hx σ) I2 r rz l1 l2 q2
structure CFn (K : PySem.W.Frag) (C : Addr) (m : Str) (g : Addr) : Prop where
  rd : PySem.W.readsIn K C (.type "type") = true
  ga : PySem.W.specialIn K (.ref C) "__getattribute__" = some (some (.builtin "type.__getattribute__"))
  at_ : PySem.W.findCls K (.ref C) (.type "type") m = some (.val (.ref g)) ∨ ∃ p rest, PySem.W.findCls K (.ref C) (.type "type") m = some (.get (.builtin "staticmethod.__get__") (.ref p) .none (.ref C)) ∧ PySem.W.recIn K p "staticmethod" = some (.ref g :: rest)
  kp : PySem.W.keepIn K (.ref g) = true
theorem getm_cfn {pl : Sem Bool} {pins : List (Addr × Obj)} {σ : L2.St} {H : Hp} {s : Shared} {g : Addr} {Q : Value × List Value → Shared → Prop} {A : Around} {E : Value → Shared → Prop} (I : Inv X pins σ H s) (r : CFn X.K C m g)
    (h : ∀ s', Inv X pins σ H s' → Q (.ref g, []) s') : wpAny (model X.prog X.w) A (getMethod (.ref C) m pl) Q E s := by
  refine PySem.W.method_cls I.kIn r.ga ?_
  rcases r.at_ with e | ⟨p, rest, e, hp⟩
  · exact PySem.W.cls_value I.kIn r.rd e rfl (h _ (I.tok _))
  · refine PySem.W.cls_bind I.kIn r.rd e ?_
    exact wpAny_call (PySem.W.sm_get (s := { s with toks := s.toks + 1 }) I.kIn hp (PySem.W.handed_on rfl (h _ (I.tok _))))
def tCFn (sp : Sp) (E : L2.St → XK) (t : TA) : TE := fun σ H Q => t σ H fun vs H1 => sp vs H1 Q (E σ)
theorem pe_cfn {pl : Sem Bool} {g : Addr} {xc : Str} {pc : Pos} (hg : Gl X xc) (hmc : X.mg xc = some (.ref C)) (r : CFn X.K C m g) (F : FnOk X.prog X.w X.K X.mg X.base CX k g fd ps sp) (hr : Room k X.A) (hb : Binds X.K fd ps []) (hx : ∀ σ, PassesAt CX X σ (E σ)) (ha : PA X (e :: es) t)
    (hdb : (xc == ("__debug__" : Str)) = false := by decide) (hst : starEach (e :: es) X.env = (false, eval e X.env) :: starEach es X.env := by rfl) (hpl : (backTo pos (starEach es X.env)).any (·.1) = false := by rfl)
    (ht : eval (.Call (.Attribute (.Name xc pc) m apos) (e :: es) [] pos) X.env = (do
      let ov ← eval (.Name xc pc) X.env
      standAt apos.atName
      let (f, first) ← holding [ov] (getMethod ov m pl)
      callWith pos f first (backTo pos (starEach (e :: es) X.env)) (backToKw pos (keywordEach [] X.env))) := by rfl) :
    PE X (.Call (.Attribute (.Name xc pc) m apos) (e :: es) [] pos) (tCFn sp E t) := by
  refine ⟨fun pins s σ H Q I h => ?_⟩
  refine PySem.W.methodCall_KW (pl := pl) (ld_glob I hg hmc ?_ hdb) ht
  refine getm_cfn I r fun s1 I1 => ?_
  refine PySem.W.callWith_K (first := []) (h₀ := X.base) I.ok.mod.kin r.kp (thn (ha.run pos pins s1 σ H _ I1 h) fun us s2 ⟨vs, H2, I2, rv, q2⟩ => ⟨I2.kIn, ?_⟩) hst hpl
  exact run_fn0D F hr hb (hx σ) I2 rv q2
end
section
variable {X : Cx} {Y : Cy} {a b c e o : Expr} {es : List Expr} {fa fb fc fo : DE} {fs : DA} {pos p p2 apos pc : Pos} {x m xc : Str} {den : List D → R D} {init : D → List D → R (D × D)} {j n : Nat}
/-- what a callee's promise asks, from what is wanted of its answer -/
theorem dsp_of {O : Addr → Prop} {σ : L2.St} {ρ : DEnv} {H : Hp} {Q : VK} {ds : List D} {vs : List V} (s : SR Y O ρ σ H) (r : RepL Y.G (Zo Y.Ze O) H ds vs) (h : EPost Y O σ H Q (den ds)) : dsp Y.G den vs H Q (WE Y.E σ) := by
  refine ⟨Zo Y.Ze O, ds, s.zt, r, ?_⟩
  cases e : den ds with
  | ok d => rw [e] at h; exact h
  | ex x => rw [e] at h; exact h
  | no => rw [e] at h; exact h
theorem call_imp (σ : L2.St) (H : Hp) (Q : VK) (h : tD Y (eCall den fs) σ H Q) : tDA Y fs σ H (fun vs H1 => dsp Y.G den vs H1 Q (WE Y.E σ)) := by
  obtain ⟨O, ρ, s, q⟩ := h
  refine ⟨O, ρ, s, ?_⟩
  unfold eCall at q
  cases ea : fs ρ with
  | ex e => rw [ea] at q; exact q
  | no => rw [ea] at q; exact q
  | ok ds =>
    rw [ea] at q
    intro vs H1 s1 rs
    exact dsp_of (s.same s1) rs (EPost.fwd s1 q)
theorem pd_call (F : Fk X.prog X.w X.K X.mg X.base Y.G x den j) (hj : j ≤ Y.lv) (hg : Gl X x) (ha : PDA X Y (e :: es) fs) (hdb : (x == ("__debug__" : Str)) = false := by decide) (he : starEach (e :: es) X.env = (false, eval e X.env) :: starEach es X.env := by rfl)
    (hpl : (backTo pos (starEach es X.env)).any (·.1) = false := by rfl) (hca : Y.ca = true := by rfl) : PD X Y (.Call (.Name x p) (e :: es) [] pos) (eCall den fs) := fun k => by
  obtain ⟨f, fd, ps, F, hm, hk, hb⟩ := F
  refine impPE (pe_callSD (E := WE Y.E) (dvs := []) F ((k.room hca).mono hj) hg hm hk hb .nil (fun σ => passAt k.tk σ) (ha k) hdb he hpl) fun σ H Q h => ?_
  have := call_imp σ H Q h
  unfold tCallSD
  simpa only [List.append_nil] using this
theorem pd_cfn {pl : Sem Bool} {C g : Addr} {fd : FuncData} {ps : List Str} (hg : Gl X xc) (hmc : X.mg xc = some (.ref C)) (r : CFn X.K C m g) (F : FnOk X.prog X.w X.K X.mg X.base (L2.CX X.prog X.w) j g fd ps (dsp Y.G den)) (hb : Binds X.K fd ps []) (hj : j ≤ Y.lv) (ha : PDA X Y (e :: es) fs)
    (hdb : (xc == ("__debug__" : Str)) = false := by decide) (hst : starEach (e :: es) X.env = (false, eval e X.env) :: starEach es X.env := by rfl) (hpl : (backTo pos (starEach es X.env)).any (·.1) = false := by rfl)
    (ht : eval (.Call (.Attribute (.Name xc pc) m apos) (e :: es) [] pos) X.env = (do
      let ov ← eval (.Name xc pc) X.env
      standAt apos.atName
      let (f, first) ← holding [ov] (getMethod ov m pl)
      callWith pos f first (backTo pos (starEach (e :: es) X.env)) (backToKw pos (keywordEach [] X.env))) := by rfl) (hca : Y.ca = true := by rfl) :
    PD X Y (.Call (.Attribute (.Name xc pc) m apos) (e :: es) [] pos) (eCall den fs) := fun k =>
  impPE (pe_cfn (E := WE Y.E) hg hmc r F ((k.room hca).mono hj) hb (fun σ => passAt k.tk σ) (ha k) hdb hst hpl ht) fun σ H Q h => call_imp σ H Q h
theorem no_look : ∀ {ks : List Str} {vs : List V} {m : Str}, m ∉ ks → (fKeys ks vs).lookup m = none
  | [], vs, m, _ => by cases vs <;> rfl
  | k :: ks, [], m, _ => rfl
  | k :: ks, v :: vs, m, h => by
    have h1 : (m == k) = false := beq_eq_false_iff_ne.mpr fun q => h (by rw [q]; exact List.mem_cons_self)
    simp only [fKeys, List.lookup_cons, h1]
    exact no_look fun q => h (List.mem_cons_of_mem _ q)
theorem meth_imp {cn : String} {t : TA} (hm : m ∉ fldOf cn) (σ : L2.St) (H : Hp) (Q : VK) (ht : ∀ σ H Q, tDA Y fs σ H Q → t σ H Q) (h : tD Y (eMeth [cn] den fo fs) σ H Q) : tMethD (Y.G.cm cn) m (dsp Y.G den) (WE Y.E) (tD Y fo) t σ H Q := by
  obtain ⟨O, ρ, s, q⟩ := h
  refine ⟨O, ρ, s, ?_⟩
  unfold eMeth at q
  cases ea : fo ρ with
  | ex e => rw [ea] at q; exact q
  | no => rw [ea] at q; exact q
  | ok dx =>
    rw [ea] at q
    simp only [R.bind_ok] at q
    intro x H1 s1 rx
    cases dx with
    | obj c ks l =>
      simp only at q
      split at q
      · rename_i hc
        obtain rfl : c = cn := by simpa using hc
        obtain ⟨p, dx, vs, rfl, n, hp, ⟨hl, hc, hf⟩, r1⟩ := id rx
        refine ⟨p, dx, _, rfl, hp, no_look fun z => hm (hf m z), ht σ H1 _ ⟨O, ρ, s.same s1, ?_⟩⟩
        cases eb : fs ρ with
        | ex e => rw [eb] at q; exact ex_fwd s1 q
        | no => rw [eb] at q; exact q
        | ok ds =>
          rw [eb] at q
          intro us H2 s2 rs
          exact dsp_of (s.same (s1.trans s2)) (RepL.cons (rx.same s2) rs) (EPost.fwd (s1.trans s2) q)
      · exact q.elim
    | _ => exact q.elim
theorem pd_meth {pl : Sem Bool} {cn : String} (M : Mt X.prog X.w X.K X.mg X.base Y.G cn m den j) (hj : j ≤ Y.lv) (ho : PD X Y o fo) (ha : PDA X Y (e :: es) fs)
    (hst : starEach (e :: es) X.env = (false, eval e X.env) :: starEach es X.env := by rfl) (hpl : (backTo pos (starEach es X.env)).any (·.1) = false := by rfl)
    (ht : eval (.Call (.Attribute o m apos) (e :: es) [] pos) X.env = (do
      let ov ← eval o X.env
      standAt apos.atName
      let (f, first) ← holding [ov] (getMethod ov m pl)
      callWith pos f first (backTo pos (starEach (e :: es) X.env)) (backToKw pos (keywordEach [] X.env))) := by rfl) (hca : Y.ca = true := by rfl) :
    PD X Y (.Call (.Attribute o m apos) (e :: es) [] pos) (eMeth [cn] den fo fs) := fun k => by
  obtain ⟨f, fd, ps, F, hm, hb, hn, hc⟩ := M
  exact impPE (pe_methD (E := WE Y.E) (ho k) hc hm F ((k.room hca).mono hj) hb (fun σ => passAt k.tk σ) (ha k) hst hpl ht) fun σ H Q h => meth_imp hn σ H Q (fun _ _ _ q => q) h
/-- the promise of an __init__ at the new object -/
theorem make_of {cn : String} {O : Addr → Prop} {σ : L2.St} {ρ : DEnv} {H : Hp} {Q : VK} {ds : List D} {vs : List V} (hc : Y.G.has cn) (s : SR Y O ρ σ H) (r : RepL Y.G (Zo Y.Ze O) H ds vs) (h : EPost Y O σ H Q (mkD cn init ds)) (x dx : Addr) (hx : H x = none) (hd : H dx = none) (ne : dx ≠ x) :
    dspM Y.G init (.ref x :: vs) (upd (upd H dx (.own x)) x (.ins (Y.G.cm cn) dx [])) (fun v H2 => v = .non ∧ Q (.ref x) H2) (WE Y.E σ) := by
  have s1 : Same H (upd (upd H dx (.own x)) x (.ins (Y.G.cm cn) dx [])) := fun b o e => by
    rw [upd_ne (ne_of_none e hx), upd_ne (ne_of_none e hd)]
    exact e
  have hz : ∀ b, (fun b => Zo Y.Ze O b ∨ b = x) b → upd (upd H dx (.own x)) x (.ins (Y.G.cm cn) dx []) b ≠ none := fun b z q => by
    rcases z with z | rfl
    · exact s.zt b z (s1.free q)
    · rw [upd_same] at q; cases q
  have r1 : RepL Y.G (fun b => Zo Y.Ze O b ∨ b = x) (upd (upd H dx (.own x)) x (.ins (Y.G.cm cn) dx [])) ds vs :=
    RepL.mono (Same.sub s1) (fun b z => z.elim .inl fun e => .inr (by rw [e]; exact hx)) r
  refine ⟨fun b => Zo Y.Ze O b ∨ b = x, x, .obj cn [] [], vs, ds, rfl, .inr rfl, hz, ⟨cn, [], [], dx, [], rfl, upd_same, ⟨rfl, hc, fun f z => by cases z⟩, rfl⟩, r1, ?_⟩
  unfold mkD at h
  cases e : init (.obj cn [] []) ds with
  | no => rw [e] at h; exact h
  | ex y =>
    rw [e] at h
    intro c od H' s' _ xr
    refine h c od H' (fun b o q => s' b o (ne_of_none q hx) (s1 b o q)) ?_
    obtain ⟨e1, d, us, e2, e3, e4, e5⟩ := xr
    exact ⟨e1, d, us, e2, e3, e4, e5.weak fun b z => .inl z⟩
  | ok p =>
    rw [e] at h
    obtain ⟨d, s'⟩ := p
    simp only [R.bind_ok] at h
    cases d with
    | non =>
      intro v H' sm ob rv
      refine ⟨rv, h _ H' (fun b o q => sm b o (ne_of_none q hx) (s1 b o q)) ?_⟩
      obtain ⟨c, ks, l, dx', us, e1, e2, e3, e4⟩ := ob
      have e1 : s' = .obj c ks l := e1
      subst e1
      exact ⟨x, dx', us, rfl, fun z => s.zt x z hx, e2, e3, e4.weak fun b z => .inl z⟩
    | _ => exact h.elim
theorem make_imp {cn : String} {t : TA} (hc : Y.G.has cn) (σ : L2.St) (H : Hp) (Q : VK) (ht : ∀ σ H Q, tDA Y fs σ H Q → t σ H Q) (h : tD Y (eCall (mkD cn init) fs) σ H Q) : tMakeD (Y.G.cm cn) (dspM Y.G init) (WE Y.E) t σ H Q := by
  obtain ⟨O, ρ, s, q⟩ := h
  refine ht σ H _ ⟨O, ρ, s, ?_⟩
  unfold eCall at q
  cases ea : fs ρ with
  | ex e => rw [ea] at q; exact q
  | no => rw [ea] at q; exact q
  | ok ds =>
    rw [ea] at q
    intro vs H1 s1 rs x dx hx hd ne
    exact make_of hc (s.same s1) rs (EPost.fwd s1 q) x dx hx hd ne
theorem pd_make {cn : String} (M : Ck X.prog X.w X.K X.mg X.base Y.G x cn init j) (hj : j + 1 ≤ Y.lv) (hg : Gl X x) (ha : PDA X Y (e :: es) fs) (hdb : (x == ("__debug__" : Str)) = false := by decide) (he : starEach (e :: es) X.env = (false, eval e X.env) :: starEach es X.env := by rfl)
    (hpl : (backTo pos (starEach es X.env)).any (·.1) = false := by rfl) (hca : Y.ca = true := by rfl) : PD X Y (.Call (.Name x p) (e :: es) [] pos) (eCall (mkD cn init) fs) := fun k => by
  obtain ⟨f, fd, ps, F, hk, hm, hb, hc⟩ := M
  exact impPE (pe_makeD (E := WE Y.E) hk F ((k.room hca).mono hj) hg hm hb (fun σ => passAt k.tk σ) (ha k) hdb he hpl) fun σ H Q h => make_imp hc σ H Q (fun _ _ _ q => q) h
def PDK (X : Cx) (Y : Cy) (kws : List Keyword) (f : DA) : Prop := Lk X Y → PK X kws (tDA Y f)
theorem impPK {X : Cx} {kws : List Keyword} {t t' : TA} (h : PK X kws t) (i : ∀ σ H Q, t' σ H Q → t σ H Q) : PK X kws t' := ⟨fun p pins s σ H Q I q => h.run p pins s σ H Q I (i σ H Q q)⟩
theorem dk_nil : PDK X Y [] aNil := fun k => impPK pk_nil fun σ H Q ⟨O, ρ, s, q⟩ => q [] H (Same.refl H) rfl
theorem dk_cons {kws : List Keyword} {nm : Option Str} {kpos : Pos} (ha : PD X Y a fa) (hr : PDK X Y kws fs) : PDK X Y (⟨nm, a, kpos⟩ :: kws) (aCons fa fs) := fun k => impPK (pk_cons (ha k) (hr k)) fun σ H Q ⟨O, ρ, s, q⟩ => by
  refine ⟨O, ρ, s, ?_⟩
  unfold aCons at q
  cases ea : fa ρ with
  | ex e => rw [ea] at q; exact q
  | no => rw [ea] at q; exact q
  | ok dx =>
    rw [ea] at q
    simp only [R.bind_ok] at q
    intro x H1 s1 rx
    refine ⟨O, ρ, s.same s1, ?_⟩
    cases eb : fs ρ with
    | ex e => rw [eb] at q; exact ex_fwd s1 q
    | no => rw [eb] at q; exact q
    | ok ds =>
      rw [eb] at q
      intro vs H2 s2 rs
      exact q _ H2 (s1.trans s2) (RepL.cons (rx.same s2) rs)
theorem pd_makeK {cn : String} {ks : List Str} {gD : List D → List D → List D} {kws : List Keyword} {fk : DA} {m : Nat} (M : CkK X.prog X.w X.K X.mg X.base Y.G x cn n ks gD init j) (hj : j + 1 ≤ Y.lv) (hg : Gl X x) (ha : PDA X Y (e :: es) fs) (hkw : PDK X Y kws fk) (hkl : ks.length = m)
    (hall : (backToKw pos (keywordEach kws X.env)).all (·.1.isSome) = true := by rfl) (hks : (backToKw pos (keywordEach kws X.env)).filterMap (·.1) = ks := by rfl) (hdb : (x == ("__debug__" : Str)) = false := by decide)
    (he : starEach (e :: es) X.env = (false, eval e X.env) :: starEach es X.env := by rfl) (hpl : ((backTo pos (starEach (e :: es) X.env)).any (·.1) || (backToKw pos (keywordEach kws X.env)).any (·.1.isNone)) = false := by rfl) (hca : Y.ca = true := by rfl) :
    PD X Y (.Call (.Name x p) (e :: es) kws pos) (eMkK n m cn gD init fs fk) := fun k => by
  subst hkl
  obtain ⟨f, fd, ps, g, gV, F, hk, hm, hb, hc, hr⟩ := M
  refine impPE (pe_makeKD (E := WE Y.E) hk F ((k.room hca).mono hj) hg hm hb (fun σ => passAt k.tk σ) (ha k) (hkw k) hall hks hdb he hpl) fun σ H Q h => ?_
  obtain ⟨O, ρ, s, q⟩ := h
  refine ⟨O, ρ, s, ?_⟩
  unfold eMkK at q
  cases ea : fs ρ with
  | ex e => rw [ea] at q; exact q
  | no => rw [ea] at q; exact q
  | ok ds =>
    rw [ea] at q
    simp only [R.bind_ok] at q
    intro vs H1 s1 rs
    refine ⟨O, ρ, s.same s1, ?_⟩
    cases eb : fk ρ with
    | ex e => rw [eb] at q; exact ex_fwd s1 q
    | no => rw [eb] at q; exact q
    | ok es' =>
      rw [eb] at q
      simp only [R.bind_ok] at q
      intro zs H2 s2 rz
      split at q
      · rename_i hl
        refine ⟨rs.length.symm.trans hl.1, rz.length.symm.trans hl.2, fun x dx hx hd ne => ?_⟩
        exact make_of hc (s.same (s1.trans s2)) (hr _ _ _ _ _ _ hl.1 hl.2 (rs.same s2) rz) (EPost.fwd (s1.trans s2) q) x dx hx hd ne
      · exact q.elim
end
end Tw

set_option maxHeartbeats 2000000
namespace Tw
open PySem PySem.Spec L2
open PyProof.Rows hiding St
section
variable {Y : Cy} {O : Addr → Prop} {ρ : DEnv} {σ : L2.St} {H H' : Hp} {α : Nat → Addr}
theorem isOwn_none {i : Nat} (h : ρ[i]? = some none) : ¬ isOwn ρ i := fun ⟨d, k⟩ => by
  rcases k with k | k | k <;> rw [h] at k <;> cases k
theorem ptrB {Y : Cy} {O O' : Addr → Prop} {ρ : DEnv} {σ : L2.St} {H H' : Hp} {k : Nat} {x : Option Slot} {v : Option V} (h : PtrOk Y O ρ σ H) (hx : notP x = true) (r : ∀ d v, Rep Y.G (Zo Y.Ze O) H d v → Rep Y.G (Zo Y.Ze O') H' d v) : PtrOk Y O' (ρ.set k x) (σ.set k v) H' := h.to r fun i y e hy => by
  rcases set_at e with ⟨_, q⟩ | ⟨n, q⟩
  · rcases hy with rfl | ⟨d, rfl⟩ <;> (rw [← q] at hx; cases hx)
  · exact ⟨q, List.getElem?_set_ne (Ne.symm n)⟩
/-- a name that holds nothing gets a value -/
theorem SR.putv {i : Nat} {d : D} {v : V} (s : SR Y O ρ σ H) (hi : ρ[i]? = some none) (hn : i < Y.n) (r : Rep Y.G (Zo Y.Ze O) H d v) : SR Y O (ρ.set i (some (.val d))) (σ.set i (some v)) H := by
  obtain ⟨α, s⟩ := s
  have sub : ∀ j, isOwn (ρ.set i (some (.val d))) j ↔ isOwn ρ j := fun j => by
    refine ⟨fun h => ?_, fun h => ?_⟩
    · rcases isOwn_set h with ⟨_, d, k | k | k⟩ | ⟨_, k⟩
      · cases k
      · cases k
      · cases k
      · exact k
    · have hj : j ≠ i := fun e => isOwn_none hi (e ▸ h)
      obtain ⟨d', h⟩ := h
      refine ⟨d', ?_⟩
      rw [List.getElem?_set_ne (Ne.symm hj)]
      exact h
  have hσ : i < σ.length := by rw [s.len.1]; exact hn
  refine ⟨α, by rw [List.length_set, List.length_set]; exact s.len, fun j d' e => ?_, fun j d' e => ?_, fun j d' e => ?_, fun j d' e => ?_, fun j k hj hk e => s.inj j k ((sub j).mp hj) ((sub k).mp hk) e, fun a => ?_, s.zt, s.ot, ptrB s.ptr rfl fun _ _ r => r⟩
  · rcases set_at e with ⟨rfl, q⟩ | ⟨hj, q⟩
    · cases q
      exact ⟨v, List.getElem?_set_self hσ, r⟩
    · obtain ⟨v, e1, r⟩ := s.val j d' q
      exact ⟨v, by rw [List.getElem?_set_ne (Ne.symm hj)]; exact e1, r⟩
  · rcases set_at e with ⟨rfl, q⟩ | ⟨hj, q⟩
    · cases q
    · obtain ⟨e1, n, r⟩ := s.own j d' q
      exact ⟨by rw [List.getElem?_set_ne (Ne.symm hj)]; exact e1, n, r⟩
  · rcases set_at e with ⟨rfl, q⟩ | ⟨hj, q⟩
    · cases q
    · obtain ⟨e1, n, c, ks, l, dx, vs, e2, e3, e4, r⟩ := s.slf j d' q
      refine ⟨by rw [List.getElem?_set_ne (Ne.symm hj)]; exact e1, n, c, ks, l, dx, vs, e2, e3, e4, r.weak (fun _ z => z) fun k d'' hk => ?_⟩
      by_cases hki : k = i
      · subst hki
        rw [hi] at hk
        cases hk
      · exact ⟨d'', by rw [List.getElem?_set_ne (Ne.symm hki)]; exact hk⟩
  · rcases set_at e with ⟨rfl, q⟩ | ⟨hj, q⟩
    · cases q
    · exact s.gho j d' q
  · rw [s.oeq]
    exact ⟨fun ⟨j, k, e⟩ => ⟨j, (sub j).mpr k, e⟩, fun ⟨j, k, e⟩ => ⟨j, (sub j).mp k, e⟩⟩
/-- .. a container of its own -/
theorem SR.puto {i : Nat} {d : D} {p : Addr} (s : SR Y O ρ σ H) (sm : Same H H') (hp0 : H p = none) (hi : ρ[i]? = some none) (hn : i < Y.n) (hp : H' p ≠ none) (r : RepW Y.G (fun a => Zo Y.Ze O a ∨ a = p) H' d (.ref p)) :
    SR Y (fun a => O a ∨ a = p) (ρ.set i (some (.own d))) (σ.set i (some (.ref p))) H' := by
  have zt := s.zt
  obtain ⟨α, s⟩ := s
  have hz : ¬ Zo Y.Ze O p := fun z => zt p z hp0
  have hσ : i < σ.length := by rw [s.len.1]; exact hn
  have hl : i < ρ.length := (List.getElem?_eq_some_iff.mp hi).1
  have sub : ∀ j, isOwn (ρ.set i (some (.own d))) j ↔ j = i ∨ isOwn ρ j := fun j => by
    refine ⟨fun h => ?_, fun h => ?_⟩
    · rcases isOwn_set h with ⟨e, _⟩ | ⟨_, k⟩
      · exact .inl e
      · exact .inr k
    · by_cases hj : j = i
      · subst hj
        exact ⟨d, .inl (List.getElem?_set_self hl)⟩
      · rcases h with h | h
        · exact absurd h hj
        · obtain ⟨d', h⟩ := h
          refine ⟨d', ?_⟩
          rw [List.getElem?_set_ne (Ne.symm hj)]
          exact h
  have zz : ∀ a, Zo Y.Ze (fun a => O a ∨ a = p) a → Zo Y.Ze O a ∨ H a = none := fun a z => by
    rcases z with z | z | rfl
    · exact .inl (.inl z)
    · exact .inl (.inr z)
    · exact .inr hp0
  have aj : ∀ j, isOwn ρ j → (if j = i then p else α j) = α j ∧ α j ≠ p := fun j h => by
    have hj : j ≠ i := fun e => isOwn_none hi (e ▸ h)
    exact ⟨if_neg hj, fun e => hz (.inr (e ▸ (s.oeq _).mpr ⟨j, h, rfl⟩))⟩
  refine ⟨fun j => if j = i then p else α j, by rw [List.length_set, List.length_set]; exact s.len, fun j d' e => ?_, fun j d' e => ?_, fun j d' e => ?_, fun j d' e => ?_, fun j k hj hk e => ?_, fun a => ?_, fun a z q => s.zt a z (sm.free q), fun a z => ?_, ptrB s.ptr rfl fun _ _ r => r.mono (Same.sub sm) zz⟩
  · rcases set_at e with ⟨rfl, q⟩ | ⟨hj, q⟩
    · cases q
    · obtain ⟨v, e1, r⟩ := s.val j d' q
      exact ⟨v, by rw [List.getElem?_set_ne (Ne.symm hj)]; exact e1, r.mono (Same.sub sm) zz⟩
  · rcases set_at e with ⟨rfl, q⟩ | ⟨hj, q⟩
    · cases q
      rw [if_pos rfl]
      exact ⟨List.getElem?_set_self hσ, fun z => hz (.inl z), r.weak fun a z => by rcases z with z | z | z; exact .inl (.inl z); exact .inl (.inr z); exact .inr z⟩
    · obtain ⟨e1, n, r⟩ := s.own j d' q
      rw [if_neg hj]
      exact ⟨by rw [List.getElem?_set_ne (Ne.symm hj)]; exact e1, n, r.mono sm zz⟩
  · rcases set_at e with ⟨rfl, q⟩ | ⟨hj, q⟩
    · cases q
    · obtain ⟨e1, n, c, ks, l, dx, vs, e2, e3, e4, r⟩ := s.slf j d' q
      rw [if_neg hj]
      refine ⟨by rw [List.getElem?_set_ne (Ne.symm hj)]; exact e1, n, c, ks, l, dx, vs, e2, sm _ _ e3, e4, RepGL.mono sm zz (fun k d'' hk => ?_) r⟩
      have hki : k ≠ i := fun e => by subst e; rw [hi] at hk; cases hk
      exact ⟨if_neg hki, d'', by rw [List.getElem?_set_ne (Ne.symm hki)]; exact hk⟩
  · rcases set_at e with ⟨rfl, q⟩ | ⟨hj, q⟩
    · cases q
    · obtain ⟨r, k⟩ := s.gho j d' q
      rw [if_neg hj]
      exact ⟨r.mono sm zz, k⟩
  · rcases (sub j).mp hj with rfl | hj'
    · rcases (sub k).mp hk with rfl | hk'
      · rfl
      · have e : p = if k = j then p else α k := by rw [if_pos rfl] at e; exact e
        rw [(aj k hk').1] at e
        exact absurd e.symm (aj k hk').2
    · rcases (sub k).mp hk with rfl | hk'
      · have e : (if j = k then p else α j) = p := by rw [if_pos (rfl : k = k)] at e; exact e
        rw [(aj j hj').1] at e
        exact absurd e (aj j hj').2
      · have e : (if j = i then p else α j) = if k = i then p else α k := e
        rw [(aj j hj').1, (aj k hk').1] at e
        exact s.inj j k hj' hk' e
  · refine ⟨fun h => ?_, fun ⟨j, h, e⟩ => ?_⟩
    · rcases h with h | rfl
      · obtain ⟨j, hj, e⟩ := (s.oeq a).mp h
        exact ⟨j, (sub j).mpr (.inr hj), (aj j hj).1.trans e⟩
      · exact ⟨i, (sub i).mpr (.inl rfl), if_pos rfl⟩
    · have e : (if j = i then p else α j) = a := e
      rcases (sub j).mp h with rfl | h
      · rw [if_pos rfl] at e
        exact .inr e.symm
      · rw [(aj j h).1] at e
        exact .inl ((s.oeq a).mpr ⟨j, h, e⟩)
  · rcases z with z | rfl
    · exact fun q => s.ot a z (sm.free q)
    · exact hp
/-- the container is given out -/
theorem SR.frz {i : Nat} {d : D} (s : SR Y O ρ σ H) (hi : ρ[i]? = some (some (.own d))) : ∃ O', (∀ a, O' a → O a) ∧ SR Y O' (ρ.set i (some (.val d))) σ H ∧ ∀ a, O a → O' a ∨ RepW Y.G (Zo Y.Ze O) H d (.ref a) := by
  obtain ⟨α, s⟩ := s
  have hl : i < ρ.length := (List.getElem?_eq_some_iff.mp hi).1
  obtain ⟨ei, ni, ri⟩ := s.own i d hi
  have sub : ∀ j, isOwn (ρ.set i (some (.val d))) j → isOwn ρ j ∧ j ≠ i := fun j h => by
    rcases isOwn_set h with ⟨_, d, k | k | k⟩ | ⟨n, k⟩
    · cases k
    · cases k
    · cases k
    · exact ⟨k, n⟩
  have zz : ∀ a, Zo Y.Ze (fun a => ∃ j, isOwn (ρ.set i (some (.val d))) j ∧ α j = a) a → Zo Y.Ze O a := fun a z => z.elim .inl fun ⟨j, k, e⟩ => .inr ((s.oeq a).mpr ⟨j, (sub j k).1, e⟩)
  have nz : ¬ Zo Y.Ze (fun a => ∃ j, isOwn (ρ.set i (some (.val d))) j ∧ α j = a) (α i) := fun z => by
    rcases z with z | ⟨j, k, e⟩
    · exact ni z
    · exact (sub j k).2 (s.inj j i (sub j k).1 ⟨d, .inl hi⟩ e)
  have rv : Rep Y.G (Zo Y.Ze fun a => ∃ j, isOwn (ρ.set i (some (.val d))) j ∧ α j = a) H d (.ref (α i)) := by
    have r := RepW.weak zz ri
    cases d with
    | lst l => obtain ⟨a, vs, e, t, r⟩ := r; cases e; exact ⟨_, vs, rfl, nz, t, r⟩
    | dct ks l => obtain ⟨a, vs, e, t, k, r⟩ := r; cases e; exact ⟨_, vs, rfl, nz, t, k, r⟩
    | obj c ks l => obtain ⟨a, dx, vs, e, t, k, r⟩ := r; cases e; exact ⟨_, dx, vs, rfl, nz, t, k, r⟩
    | _ => exact r
  refine ⟨fun a => ∃ j, isOwn (ρ.set i (some (.val d))) j ∧ α j = a, fun a ⟨j, k, e⟩ => (s.oeq a).mpr ⟨j, (sub j k).1, e⟩, ⟨α, ?_⟩, fun a h => ?_⟩
  rotate_left
  · obtain ⟨j, hj, e⟩ := (s.oeq a).mp h
    by_cases hji : j = i
    · subst hji
      exact .inr (e ▸ ri)
    · obtain ⟨d', hj⟩ := hj
      refine .inl ⟨j, ⟨d', ?_⟩, e⟩
      rw [List.getElem?_set_ne (Ne.symm hji)]
      exact hj
  refine ⟨by rw [List.length_set]; exact s.len, fun j d' e => ?_, fun j d' e => ?_, fun j d' e => ?_, fun j d' e => ?_, fun j k hj hk e => s.inj j k (sub j hj).1 (sub k hk).1 e, fun a => Iff.rfl, s.zt, fun a ⟨j, k, e⟩ => s.ot a ((s.oeq a).mpr ⟨j, (sub j k).1, e⟩), ptrA s.ptr rfl fun _ _ r => r.weak zz⟩
  · rcases set_at e with ⟨rfl, q⟩ | ⟨_, q⟩
    · cases q
      exact ⟨_, ei, rv⟩
    · obtain ⟨v, e1, r⟩ := s.val j d' q
      exact ⟨v, e1, r.weak zz⟩
  · rcases set_at e with ⟨_, q⟩ | ⟨_, q⟩
    · cases q
    · obtain ⟨e1, n, r⟩ := s.own j d' q
      exact ⟨e1, n, r.weak zz⟩
  · rcases set_at e with ⟨_, q⟩ | ⟨_, q⟩
    · cases q
    · obtain ⟨e1, n, c, ks, l, dx, vs, e2, e3, e4, r⟩ := s.slf j d' q
      refine ⟨e1, n, c, ks, l, dx, vs, e2, e3, e4, r.weak zz fun k d'' hk => ?_⟩
      have hki : k ≠ i := fun e => by subst e; rw [hi] at hk; cases hk
      exact ⟨d'', by rw [List.getElem?_set_ne (Ne.symm hki)]; exact hk⟩
  · rcases set_at e with ⟨_, q⟩ | ⟨_, q⟩
    · cases q
    · obtain ⟨r, k⟩ := s.gho j d' q
      exact ⟨r.weak zz, k⟩
/-- the name's container is changed in its place -/
theorem SR.mut {i : Nat} {d d' : D} {o : HO} (s : SR Y O ρ σ H) (hi : ρ[i]? = some (some (.own d))) (k : ∀ p, σ[i]? = some (some (.ref p)) → RepW Y.G (Zo Y.Ze O) H d (.ref p) → H p ≠ none → O p → RepW Y.G (Zo Y.Ze O) (upd H p o) d' (.ref p)) :
    ∃ p, σ[i]? = some (some (.ref p)) ∧ O p ∧ RepW Y.G (Zo Y.Ze O) H d (.ref p) ∧ SR Y O (ρ.set i (some (.own d'))) σ (upd H p o) := by
  obtain ⟨α, s⟩ := s
  have hl : i < ρ.length := (List.getElem?_eq_some_iff.mp hi).1
  obtain ⟨ei, ni, ri⟩ := s.own i d hi
  have oi : isOwn ρ i := ⟨d, .inl hi⟩
  have Oi : O (α i) := (s.oeq _).mpr ⟨i, oi, rfl⟩
  have hne := s.ot _ Oi
  have sub : ∀ j, isOwn (ρ.set i (some (.own d'))) j ↔ isOwn ρ j := fun j => by
    refine ⟨fun h => ?_, fun h => ?_⟩
    · rcases isOwn_set h with ⟨e, _⟩ | ⟨_, k⟩
      · rw [e]; exact oi
      · exact k
    · by_cases hj : j = i
      · subst hj
        exact ⟨d', .inl (List.getElem?_set_self hl)⟩
      · obtain ⟨d'', h⟩ := h
        refine ⟨d'', ?_⟩
        rw [List.getElem?_set_ne (Ne.symm hj)]
        exact h
  have sb : Sub (Zo Y.Ze O) H (upd H (α i) o) := fun a u n e => by
    rw [upd_ne fun q => n (.inr (by rw [q]; exact Oi))]
    exact e
  have an : ∀ j, isOwn ρ j → j ≠ i → α j ≠ α i := fun j h n e => n (s.inj j i h oi e)
  have rw' : ∀ {d : D} {p : Addr}, p ≠ α i → RepW Y.G (Zo Y.Ze O) H d (.ref p) → RepW Y.G (Zo Y.Ze O) (upd H (α i) o) d (.ref p) := fun {d p} hp r => by
    cases d with
    | lst l => obtain ⟨a, vs, e, t, r⟩ := r; cases e; exact ⟨_, vs, rfl, by rw [upd_ne hp]; exact t, r.mono sb fun _ q => .inl q⟩
    | dct ks l => obtain ⟨a, vs, e, t, k, r⟩ := r; cases e; exact ⟨_, vs, rfl, by rw [upd_ne hp]; exact t, k, r.mono sb fun _ q => .inl q⟩
    | obj c ks l => obtain ⟨a, dx, vs, e, t, k, r⟩ := r; cases e; exact ⟨_, dx, vs, rfl, by rw [upd_ne hp]; exact t, k, r.mono sb fun _ q => .inl q⟩
    | _ => exact Rep.mono sb (fun _ q => .inl q) r
  have gl : ∀ {ds : List D} {vs : List V}, RepGL Y.G (Zo Y.Ze O) α ρ H ds vs → RepGL Y.G (Zo Y.Ze O) α (ρ.set i (some (.own d'))) (upd H (α i) o) ds vs := by
    intro ds
    induction ds with
    | nil => intro vs h; exact h
    | cons d ds ih =>
      intro vs h
      obtain ⟨v, r, e, h1, h2⟩ := h
      refine ⟨v, r, e, ?_, ih h2⟩
      cases d with
      | gst j =>
        obtain ⟨e, d'', kk⟩ := h1
        have hki : j ≠ i := fun e => by subst e; rw [hi] at kk; cases kk
        exact ⟨e, d'', by rw [List.getElem?_set_ne (Ne.symm hki)]; exact kk⟩
      | _ => exact Rep.mono sb (fun _ q => .inl q) h1
  refine ⟨α i, ei, Oi, ri, α, by rw [List.length_set]; exact s.len, fun j d'' e => ?_, fun j d'' e => ?_, fun j d'' e => ?_, fun j d'' e => ?_, fun j k hj hk e => s.inj j k ((sub j).mp hj) ((sub k).mp hk) e, fun a => ?_, fun a z q => ?_, fun a z q => ?_, ptrA s.ptr rfl fun _ _ r => r.mono sb fun _ q => .inl q⟩
  · rcases set_at e with ⟨_, q⟩ | ⟨_, q⟩
    · cases q
    · obtain ⟨v, e1, r⟩ := s.val j d'' q
      exact ⟨v, e1, r.mono sb fun _ q => .inl q⟩
  · rcases set_at e with ⟨rfl, q⟩ | ⟨hj, q⟩
    · cases q
      exact ⟨ei, ni, k _ ei ri hne Oi⟩
    · obtain ⟨e1, n, r⟩ := s.own j d'' q
      exact ⟨e1, n, rw' (an j ⟨d'', .inl q⟩ hj) r⟩
  · rcases set_at e with ⟨_, q⟩ | ⟨hj, q⟩
    · cases q
    · obtain ⟨e1, n, c, ks, l, dx, vs, e2, e3, e4, r⟩ := s.slf j d'' q
      exact ⟨e1, n, c, ks, l, dx, vs, e2, by rw [upd_ne (an j ⟨d'', .inr (.inl q)⟩ hj)]; exact e3, e4, gl r⟩
  · rcases set_at e with ⟨_, q⟩ | ⟨hj, q⟩
    · cases q
    · obtain ⟨r, k⟩ := s.gho j d'' q
      exact ⟨rw' (an j ⟨d'', .inr (.inr q)⟩ hj) r, k⟩
  · rw [s.oeq]
    exact ⟨fun ⟨j, k, e⟩ => ⟨j, (sub j).mpr k, e⟩, fun ⟨j, k, e⟩ => ⟨j, (sub j).mp k, e⟩⟩
  · by_cases h : a = α i
    · subst h; rw [upd_same] at q; cases q
    · rw [upd_ne h] at q; exact s.zt a z q
  · by_cases h : a = α i
    · subst h; rw [upd_same] at q; cases q
    · rw [upd_ne h] at q; exact s.ot a z q
end
end Tw

set_option maxHeartbeats 2000000
namespace Tw
open PySem PySem.Spec L2
open PyProof.Rows hiding St
section
variable {X : Cx} {Y : Cy} {O : Addr → Prop} {ρ : DEnv} {σ : L2.St} {H H' : Hp} {α : Nat → Addr}
theorem set_set {α : Type} (l : List α) (i : Nat) (a b : α) : (l.set i a).set i b = l.set i b := by simp
theorem setV_ok {i : Nat} {d : D} {ρ ρ' : DEnv} (h : setV i d ρ = .ok ρ') : (∃ x, ρ[i]? = some x ∧ (∀ d, x ≠ some (.slf d)) ∧ ∀ d, x ≠ some (.gho d)) ∧ ρ' = ρ.set i (some (.val d)) := by
  unfold setV at h
  split at h
  · cases h
  · cases h
  · rename_i x n1 n2 e
    cases h
    exact ⟨⟨x, e, fun d q => n1 d q, fun d q => n2 d q⟩, rfl⟩
  · cases h
theorem setO_ok {i : Nat} {d : D} {ρ ρ' : DEnv} (h : setO i d ρ = .ok ρ') : (∃ x, ρ[i]? = some x ∧ (∀ d, x ≠ some (.slf d)) ∧ ∀ d, x ≠ some (.gho d)) ∧ ρ' = ρ.set i (some (.own d)) := by
  unfold setO at h
  split at h
  · cases h
  · cases h
  · rename_i x n1 n2 e
    cases h
    exact ⟨⟨x, e, fun d q => n1 d q, fun d q => n2 d q⟩, rfl⟩
  · cases h
theorem setV_no {i : Nat} {d : D} {ρ : DEnv} {e : Ex} (h : setV i d ρ = .ex e) : False := by
  unfold setV at h; split at h <;> cases h
theorem setO_no {i : Nat} {d : D} {ρ : DEnv} {e : Ex} (h : setO i d ρ = .ex e) : False := by
  unfold setO at h; split at h <;> cases h
theorem SR.setv {i : Nat} {d : D} {v : V} {ρ' : DEnv} (s : SR Y O ρ σ H) (h : setV i d ρ = .ok ρ') (hn : i < Y.n) (r : Rep Y.G (Zo Y.Ze O) H d v) : ∃ O', Stp O H O' H ∧ SR Y O' ρ' (σ.set i (some v)) H ∧ (∀ a, O' a → O a) ∧ (¬ isOwn ρ i → ∀ a, O a → O' a) := by
  obtain ⟨hi, rfl⟩ := setV_ok h
  obtain ⟨O', st, s', e, sub, ho⟩ := s.free hi
  refine ⟨O', st, ?_, sub, ho⟩
  have := s'.putv e hn (r.weak fun a z => z.elim .inl fun z => .inr (sub a z))
  rwa [set_set] at this
theorem SR.seto {i : Nat} {d : D} {p : Addr} {ρ' : DEnv} (s : SR Y O ρ σ H) (h : setO i d ρ = .ok ρ') (hn : i < Y.n) (sm : Same H H') (hp0 : H p = none) (hp : H' p ≠ none) (r : RepW Y.G (fun a => Zo Y.Ze O a ∨ a = p) H' d (.ref p)) :
    ∃ O', Stp O H O' H' ∧ SR Y O' ρ' (σ.set i (some (.ref p))) H' := by
  obtain ⟨hi, rfl⟩ := setO_ok h
  obtain ⟨O', st, s', e, sub, _⟩ := s.free hi
  refine ⟨fun a => O' a ∨ a = p, ⟨fun a o n q => sm a o q, fun a z => z.elim (fun z => .inl (sub a z)) fun z => .inr (by rw [z]; exact hp0)⟩, ?_⟩
  have := s'.puto sm hp0 e hn hp (r.weak fun a z => by rcases z with (z | z) | z; exact .inl (.inl z); exact .inl (.inr (sub a z)); exact .inr z)
  rwa [set_set] at this
theorem clr1_SR {i : Nat} (s : SR Y O ρ σ H) : ∃ O', Stp O H O' H ∧ SR Y O' (clr1 i ρ) σ H := by
  unfold clr1
  split
  · rename_i d e
    obtain ⟨O', st, s', _⟩ := s.free ⟨_, e, fun _ => (by intro q; cases q), fun _ => (by intro q; cases q)⟩
    exact ⟨O', st, s'⟩
  · rename_i d e
    obtain ⟨O', st, s', _⟩ := s.free ⟨_, e, fun _ => (by intro q; cases q), fun _ => (by intro q; cases q)⟩
    exact ⟨O', st, s'⟩
  · exact ⟨O, Stp.refl, s⟩
theorem clrD_SR : ∀ (is : List Nat) {O : Addr → Prop} {ρ : DEnv}, SR Y O ρ σ H → ∃ O', Stp O H O' H ∧ SR Y O' (clrD is ρ) σ H
  | [], O, ρ, s => ⟨O, Stp.refl, s⟩
  | i :: is, O, ρ, s => by
    obtain ⟨O1, st1, s1⟩ := clr1_SR (i := i) s
    obtain ⟨O2, st2, s2⟩ := clrD_SR is s1
    exact ⟨O2, st1.trans st2, s2⟩
theorem frzD_SR {i : Nat} (s : SR Y O ρ σ H) : ∃ O', Stp O H O' H ∧ SR Y O' (frzD i ρ) σ H := by
  unfold frzD
  split
  · rename_i d e
    obtain ⟨O', h, s', _⟩ := s.frz e
    exact ⟨O', Stp.drop h, s'⟩
  · exact ⟨O, Stp.refl, s⟩
theorem frzs_SR : ∀ (is : List Nat) {O : Addr → Prop} {ρ : DEnv}, SR Y O ρ σ H → ∃ O', Stp O H O' H ∧ SR Y O' (is.foldl (fun r i => frzD i r) ρ) σ H
  | [], O, ρ, s => ⟨O, Stp.refl, s⟩
  | i :: is, O, ρ, s => by
    obtain ⟨O1, st1, s1⟩ := frzD_SR (i := i) s
    obtain ⟨O2, st2, s2⟩ := frzs_SR is s1
    exact ⟨O2, st1.trans st2, s2⟩
theorem SPost.fwd {O O1 : Addr → Prop} {H H1 : Hp} {N : Ends} {r : R Out} (st : Stp O H O1 H1) (h : SPost Y O H N r) : SPost Y O1 H1 N r := by
  cases r with
  | ok o =>
    cases o with
    | nx ρ => exact fun O' σ' H' s' q => h O' σ' H' (st.trans s') q
    | bk ρ => exact fun O' σ' H' s' q => h O' σ' H' (st.trans s') q
    | ct ρ => exact fun O' σ' H' s' q => h O' σ' H' (st.trans s') q
    | rt d ρ => exact fun O' σ' H' v s' q => h O' σ' H' v (st.trans s') q
    | xx e ρ => exact fun O' σ' H' c od s' q => h O' σ' H' c od (st.trans s') q
  | ex e => exact h
  | no => exact h
/-- an expression, then something -/
theorem exp_then {fa : DE} {k : D → R Out} {N : Ends} {Q : VK} (s : SR Y O ρ σ H) (h : SPost Y O H N ((fa ρ).st ρ k)) (hq : ∀ d, fa ρ = .ok d → SPost Y O H N (k d) → ∀ v H1, Same H H1 → Rep Y.G (Zo Y.Ze O) H1 d v → Q v H1) : tD Y fa σ H Q := by
  refine ⟨O, ρ, s, ?_⟩
  cases ea : fa ρ with
  | no => rw [ea] at h; exact h
  | ex e => rw [ea] at h; exact fun c od H1 s1 xr => h O σ H1 c od (Stp.same s1) (s.same s1) xr
  | ok d => rw [ea] at h; exact fun v H1 s1 rv => hq d ea h v H1 s1 rv
theorem expw_then {fa : DE} {k : D → R Out} {N : Ends} {Q : VK} (s : SR Y O ρ σ H) (h : SPost Y O H N ((fa ρ).st ρ k)) (hq : ∀ d, fa ρ = .ok d → SPost Y O H N (k d) → ∀ v H1, Same H H1 → RepW Y.G (Zo Y.Ze O) H1 d v → Q v H1) : tDw Y fa σ H Q := by
  refine ⟨O, ρ, s, ?_⟩
  cases ea : fa ρ with
  | no => rw [ea] at h; exact h
  | ex e => rw [ea] at h; exact fun c od H1 s1 xr => h O σ H1 c od (Stp.same s1) (s.same s1) xr
  | ok d => rw [ea] at h; exact fun v H1 s1 rv => hq d ea h v H1 s1 rv
end
section
variable {X : Cx} {Y : Cy} {st : Stmt} {rest body : List Stmt} {F G1 G2 : DS} {a b e tg : Expr} {fa fb : DE} {pos pos' p2 : Pos}
theorem dss_nil : PDSs X Y [] sNext := fun k => impPSs pss_nil fun N σ H ⟨O, ρ, s, q⟩ => q O σ H Stp.refl s
theorem dss_cons (h1 : PDS X Y st F) (h2 : PDSs X Y rest G1) : PDSs X Y (st :: rest) (sSeq F G1) := fun k => impPSs (pss_cons (h1 k) (h2 k)) fun N σ H ⟨O, ρ, s, q⟩ => by
  refine ⟨O, ρ, s, ?_⟩
  unfold sSeq at q
  cases ea : F ρ with
  | ex e => rw [ea] at q; exact q
  | no => rw [ea] at q; exact q
  | ok o =>
    rw [ea] at q
    cases o with
    | nx ρ' => exact fun O' σ' H' st s' => ⟨O', ρ', s', SPost.fwd st q⟩
    | bk ρ' => exact q
    | ct ρ' => exact q
    | rt d ρ' => exact q
    | xx e ρ' => exact q
theorem dss_one (h1 : PDS X Y st F) : PDSs X Y [st] F := fun k => pss_one (h1 k)
/-- ahead of a statement containers are given out -/
theorem ds_frz (is : List Nat) (h : PDS X Y st F) : PDS X Y st (sFrz is F) := fun k => impPS (h k) fun N σ H ⟨O, ρ, s, q⟩ => by
  obtain ⟨O', st, s'⟩ := frzs_SR is s
  exact ⟨O', _, s', SPost.fwd st q⟩
theorem ds_ret (ha : PD X Y a fa) : PDS X Y (.Return (some a) pos) (sRet fa) := fun k => impPS (ps_ret (ha k)) fun N σ H ⟨O, ρ, s, q⟩ =>
  exp_then s q fun d ea q v H1 s1 rv => q O σ H1 v (Stp.same s1) (s.same s1) rv
theorem ds_if {c : Expr} {gc : DT} {A B : List Stmt} (hc : PDT X Y c gc) (ha : PDSs X Y A G1) (hb : PDSs X Y B G2) : PDS X Y (.If c A B pos) (sIf gc G1 G2) := fun k => impPS (ps_if (hc k) (ha k) (hb k)) fun N σ H ⟨O, ρ, s, q⟩ => by
  refine ⟨O, ρ, s, ?_⟩
  unfold sIf at q
  cases ea : gc ρ with
  | no => rw [ea] at q; exact q
  | ex e => rw [ea] at q; exact fun c od H1 s1 xr => q O σ H1 c od (Stp.same s1) (s.same s1) xr
  | ok b =>
    rw [ea] at q
    intro H1 s1
    cases b with
    | true => exact ⟨O, ρ, s.same s1, SPost.fwd (Stp.same s1) q⟩
    | false => exact ⟨O, ρ, s.same s1, SPost.fwd (Stp.same s1) q⟩
theorem ds_set {i : Nat} {x : Str} (hi : X.N[i]? = some x) (hn : i < Y.n) (hx : Loc X.env.scope x) (ha : PD X Y a fa) (hs : swapsWith a (some (.Name x pos')) pos.line X.env = pure false := by rfl) (hf : X.fn x = true ∨ X.env.scope.names.lookup x = some .local := by first | exact .inl rfl | exact .inr rfl | assumption) :
    PDS X Y (.Assign [.Name x pos'] a pos) (sSet i fa) := fun k => impPS (ps_set k.nd hi hx (ha k) hs hf) fun N σ H ⟨O, ρ, s, q⟩ =>
  exp_then s q fun d ea q v H1 s1 rv => by
    cases es : setV i d ρ with
    | no => rw [es] at q; exact q.elim
    | ex e => exact (setV_no es).elim
    | ok ρ' =>
      rw [es] at q
      obtain ⟨O', st, s', _⟩ := (s.same s1).setv es hn rv
      exact q O' _ H1 ((Stp.same s1).trans st) s'
/-- an expression that makes a new container -/
def EPostF (Y : Cy) (O : Addr → Prop) (σ : L2.St) (H : Hp) (Q : VK) : R D → Prop
  | .ok d => ∀ p H', Same H H' → H p = none → H' p ≠ none → RepW Y.G (fun a => Zo Y.Ze O a ∨ a = p) H' d (.ref p) → Q (.ref p) H'
  | .ex e => ∀ c od H', Same H H' → ExRep Y.G (Zo Y.Ze O) H' e c od → Y.E c od σ H'
  | .no => False
def tDF (Y : Cy) (f : DE) : TE := fun σ H Q => ∃ O ρ, SR Y O ρ σ H ∧ EPostF Y O σ H Q (f ρ)
def PDF (X : Cx) (Y : Cy) (e : Expr) (f : DE) : Prop := Lk X Y → PE X e (tDF Y f)
theorem expf_then {O : Addr → Prop} {ρ : DEnv} {σ : L2.St} {H : Hp} {k : D → R Out} {N : Ends} {Q : VK} (s : SR Y O ρ σ H) (h : SPost Y O H N ((fa ρ).st ρ k))
    (hq : ∀ d, fa ρ = .ok d → SPost Y O H N (k d) → ∀ p H1, Same H H1 → H p = none → H1 p ≠ none → RepW Y.G (fun a => Zo Y.Ze O a ∨ a = p) H1 d (.ref p) → Q (.ref p) H1) : tDF Y fa σ H Q := by
  refine ⟨O, ρ, s, ?_⟩
  cases ea : fa ρ with
  | no => rw [ea] at h; exact h
  | ex e => rw [ea] at h; exact fun c od H1 s1 xr => h O σ H1 c od (Stp.same s1) (s.same s1) xr
  | ok d => rw [ea] at h; exact fun p H1 s1 h0 h1 rv => hq d ea h p H1 s1 h0 h1 rv
theorem ds_own {i : Nat} {x : Str} (hi : X.N[i]? = some x) (hn : i < Y.n) (hx : Loc X.env.scope x) (ha : PDF X Y a fa) (hs : swapsWith a (some (.Name x pos')) pos.line X.env = pure false := by rfl) (hf : X.fn x = true ∨ X.env.scope.names.lookup x = some .local := by first | exact .inl rfl | exact .inr rfl | assumption) :
    PDS X Y (.Assign [.Name x pos'] a pos) (sOwn i fa) := fun k => impPS (ps_set k.nd hi hx (ha k) hs hf) fun N σ H ⟨O, ρ, s, q⟩ =>
  expf_then s q fun d ea q p H1 s1 h0 h1 rv => by
    cases es : setO i d ρ with
    | no => rw [es] at q; exact q.elim
    | ex e => exact (setO_no es).elim
    | ok ρ' =>
      rw [es] at q
      obtain ⟨O', st, s'⟩ := s.seto es hn s1 h0 h1 rv
      exact q O' _ H1 st s'
theorem pf_lst {es : List Expr} {fs : DA} (ha : PDA X Y es fs) : PDF X Y (.List es pos) (eLst fs) := fun k => impPE (pe_lst (ha k)) fun σ H Q ⟨O, ρ, s, q⟩ => by
  refine ⟨O, ρ, s, ?_⟩
  unfold eLst at q
  cases ea : fs ρ with
  | no => rw [ea] at q; exact q
  | ex e => rw [ea] at q; exact q
  | ok ds =>
    rw [ea] at q
    simp only [R.bind_ok] at q
    intro vs H1 s1 rs
    split at q
    · rename_i hl
      refine ⟨by rw [lineD_eq, ← rs.length]; exact hl, fun n hn => q n _ (s1.trans (same_new hn)) (s1.free hn) (by rw [upd_same]; exact fun z => by cases z) ⟨n, _, rfl, upd_same, ?_⟩⟩
      exact rs.mono (Same.sub (same_new hn)) fun a z => z.elim .inl fun e => .inr (by rw [e]; exact hn)
    · exact q.elim
theorem pf_list {p : Pos} (hg : Gl X "list") (hm : X.mg "list" = none) (ha : PDw X Y a fa) (hs : starEach (a :: []) X.env = (false, eval a X.env) :: starEach [] X.env := by rfl) : PDF X Y (.Call (.Name "list" p) [a] [] pos) (e1 oList fa) := fun k =>
  impPE (pe_callTy call_list_of hg hm (by decide +kernel) (pa_cons (ha k) pa_nil hs) (he := hs)) fun σ H Q ⟨O, ρ, s, q⟩ => by
    refine ⟨O, ρ, s, ?_⟩
    unfold e1 at q
    cases ea : fa ρ with
    | no => rw [ea] at q; exact q
    | ex e => rw [ea] at q; exact q
    | ok dx =>
      rw [ea] at q
      simp only [R.bind_ok] at q
      intro x H1 s1 rx
      rw [k.K]
      unfold oList at q
      split at q
      · obtain ⟨p, vs, rfl, hp, r1⟩ := rx
        exact ⟨p, vs, rfl, .inl (SqL.of hp), fun n hn => q n _ (s1.trans (same_new hn)) (s1.free hn) (by rw [upd_same]; exact fun z => by cases z) ⟨n, _, rfl, upd_same, r1.mono (Same.sub (same_new hn)) fun a z => z.elim .inl fun e => .inr (by rw [e]; exact hn)⟩⟩
      · obtain ⟨p, vs, rfl, hp, r1⟩ := rep_tup rx
        exact ⟨p, vs, rfl, .inr hp, fun n hn => q n _ (s1.trans (same_new hn)) (s1.free hn) (by rw [upd_same]; exact fun z => by cases z) ⟨n, _, rfl, upd_same, r1.mono (Same.sub (same_new hn)) fun a z => z.elim .inl fun e => .inr (by rw [e]; exact hn)⟩⟩
      · exact q.elim
end
end Tw

set_option maxHeartbeats 2000000
namespace Tw
open PySem PySem.Spec L2
open PyProof.Rows hiding St
theorem orPI {X : Cx} {tg e : Expr} {t u : TI} (h : PI X tg e t) (k : PI X tg e u) : PI X tg e (fun σ H Q => t σ H Q ∨ u σ H Q) := ⟨fun pins s σ H Q I q => q.elim (h.run pins s σ H Q I) (k.run pins s σ H Q I)⟩
section
variable {X : Cx} {Y : Cy} {tg e a b : Expr} {fa fb : DE} {pos p p2 : Pos}
theorem walkS_itl {G : Gc} {Z : Addr → Prop} {H : Hp} {p : Addr} {l : List D} {vs : List V} (hz : ¬ Z p) (hp : H p = some (.lst vs)) (r : RepL G Z H l vs) : WalkS G Z H (Itl G.K p) l := fun i H2 Z2 s z => by
  have hp2 := s p _ hz hp
  refine ⟨fun d hd => ?_, fun hl => ⟨vs, SqL.of hp2, by rw [← r.length]; exact hl⟩⟩
  obtain ⟨v, hv, rv⟩ := (r.mono s z).get hd
  refine ⟨⟨vs, v, SqL.of hp2, hv⟩, fun x H3 y => ?_⟩
  obtain ⟨rfl, y⟩ := y
  have := y vs (SqL.of hp2)
  rw [hv] at this
  cases this
  exact ⟨Same.refl _, rv⟩
theorem walkS_itt {G : Gc} {Z : Addr → Prop} {H : Hp} {p : Addr} {l : List D} (r : Rep G Z H (.tup l) (.ref p)) : WalkS G Z H (Itt G.K p) l := fun i H2 Z2 s z => by
  obtain ⟨a, vs, e, hp, r⟩ := rep_tup (Rep.mono s z r)
  cases e
  refine ⟨fun d hd => ?_, fun hl => ⟨vs, hp, by rw [← r.length]; exact hl⟩⟩
  obtain ⟨v, hv, rv⟩ := r.get hd
  refine ⟨⟨vs, v, hp, hv⟩, fun x H3 y => ?_⟩
  obtain ⟨rfl, y⟩ := y
  have := y vs hp
  rw [hv] at this
  cases this
  exact ⟨Same.refl _, rv⟩
theorem walkS_str {G : Gc} {Z : Addr → Prop} {H : Hp} {x : Str} : WalkS G Z H (Its x) (x.cps.toList.map fun c => .str ⟨#[c]⟩) := fun i H2 Z2 s z => by
  refine ⟨fun d hd => ?_, fun hl => ?_⟩
  · rw [List.getElem?_map] at hd
    obtain ⟨c, hc, rfl⟩ := Option.map_eq_some_iff.mp hd
    have hc' : x.cps[i]? = some c := by rw [← Array.getElem?_toList]; exact hc
    refine ⟨(Array.getElem?_eq_some_iff.mp hc').1, fun y H3 yl => ?_⟩
    obtain ⟨rfl, c', e, rfl⟩ := yl
    rw [hc'] at e
    cases e
    exact ⟨Same.refl _, rfl⟩
  · rw [List.length_map, Array.length_toList] at hl
    exact hl
theorem walkS_rng {G : Gc} {Z : Addr → Prop} {H : Hp} {lo : Int} {n : Nat} {l : List D} (hl : l = (List.range n).map fun i => .int (lo + Int.ofNat i)) : WalkS G Z H (Itr lo n) l := fun i H2 Z2 s z => by
  subst hl
  refine ⟨fun d hd => ?_, fun h => by rw [List.length_map, List.length_range] at h; exact h⟩
  rw [List.getElem?_map] at hd
  obtain ⟨c, hc, rfl⟩ := Option.map_eq_some_iff.mp hd
  have hi : i < n := by
    have := (List.getElem?_eq_some_iff.mp hc).1
    rwa [List.length_range] at this
  rw [List.getElem?_range hi] at hc
  cases hc
  refine ⟨hi, fun y H3 yl => ?_⟩
  obtain ⟨rfl, rfl⟩ := yl
  exact ⟨Same.refl _, rfl⟩
theorem exp_iter {α : Type} {O : Addr → Prop} {ρ : DEnv} {σ : L2.St} {H : Hp} {Q : It → Hp → Prop} {k : D → R (List D)} {R : VK} (s : SR Y O ρ σ H) (h : IPostS Y O σ H Q ((fa ρ).bind k)) (hq : ∀ d, fa ρ = .ok d → IPostS Y O σ H Q (k d) → ∀ v H1, Same H H1 → Rep Y.G (Zo Y.Ze O) H1 d v → R v H1) : tD Y fa σ H R := by
  refine ⟨O, ρ, s, ?_⟩
  cases ea : fa ρ with
  | no => rw [ea] at h; exact h
  | ex e => rw [ea] at h; exact h
  | ok d => rw [ea] at h; exact fun v H1 s1 rv => hq d ea h v H1 s1 rv
/-- for x in a, a a list, a tuple, a text -/
theorem di_of (ha : PD X Y a fa) : PDI X Y tg a (iOf fa) := fun k => by
  refine impPI (orPI (pi_list (ha k)) (orPI (pi_tup (ha k)) (pi_str (ha k)))) fun σ H Q h => ?_
  obtain ⟨O, ρ, s, q⟩ := h
  have ht : ∀ {R : VK}, (∀ d, fa ρ = .ok d → IPostS Y O σ H Q (Tw.R.of (iterD d)) → ∀ v H1, Same H H1 → Rep Y.G (Zo Y.Ze O) H1 d v → R v H1) → tD Y fa σ H R := fun h => exp_iter (α := Unit) s q h
  unfold iOf at q
  cases ea : fa ρ with
  | no => rw [ea] at q; exact q.elim
  | ex e => rw [ea] at q; exact .inl ⟨O, ρ, s, by rw [ea]; exact q⟩
  | ok d =>
    rw [ea] at q
    simp only [R.bind_ok] at q
    have one : ∀ {R : VK}, (∀ v H1, Same H H1 → Rep Y.G (Zo Y.Ze O) H1 d v → R v H1) → tD Y fa σ H R := fun h => ⟨O, ρ, s, by rw [ea]; exact h⟩
    cases d with
    | lst l =>
      refine .inl (one fun v H1 s1 rv => ?_)
      obtain ⟨p, vs, rfl, n, hp, r⟩ := rv
      refine ⟨p, rfl, ⟨vs, SqL.of hp⟩, ?_⟩
      rw [k.K]
      exact q _ H1 s1 (walkS_itl n hp r)
    | tup l =>
      refine .inr (.inl (one fun v H1 s1 rv => ?_))
      have rv' := rv
      obtain ⟨p, vs, rfl, hp, r⟩ := rep_tup rv
      rw [k.K]
      exact ⟨p, rfl, ⟨vs, hp⟩, q _ H1 s1 (walkS_itt rv')⟩
    | str x =>
      refine .inr (.inr (one fun v H1 s1 rv => ⟨x, rv, q _ H1 s1 walkS_str⟩))
    | _ => exact q.elim
theorem di_range (hg : Gl X "range") (hm : X.mg "range" = none) (ha : PD X Y a fa) (hs : starEach [a] X.env = [(false, eval a X.env)] := by rfl) (hs2 : starEach (a :: []) X.env = (false, eval a X.env) :: starEach [] X.env := by rfl) : PDI X Y tg (.Call (.Name "range" p) [a] [] pos) (iRange fa) := fun k => by
  refine impPI (pi_range1 hg hm (pa_cons (ha k) pa_nil hs2) hs) fun σ H Q ⟨O, ρ, s, q⟩ => ?_
  refine ⟨O, ρ, s, ?_⟩
  unfold iRange rngR at q
  cases ea : fa ρ with
  | no => rw [ea] at q; exact q
  | ex e => rw [ea] at q; exact q
  | ok d =>
    rw [ea] at q
    simp only [R.bind_ok] at q
    intro v H1 s1 rv
    cases d with
    | int n =>
      obtain rfl : v = .int n := rv
      simp only at q
      split at q
      · rename_i hn
        exact ⟨n, rfl, (show _ ∧ _ from hn).1, (show _ ∧ _ from hn).2, q _ H1 s1 (walkS_rng (by unfold rangeD; simp))⟩
      · exact q.elim
    | _ => exact q.elim
def GPost (Y : Cy) (is : List Nat) (O : Addr → Prop) (ρ0 : DEnv) (σ : L2.St) (H : Hp) (Q : L2.St → Hp → Prop) : Tw.R DEnv → Prop
  | .ok ρ => ∀ O' σ', Stp O H O' H → SR Y O' ρ σ' H → OffS is σ σ' → ((∀ i ∈ is, ¬ isOwn ρ0 i) → ∀ a, O a → O' a) → Q σ' H
  | _ => False
def tDG (Y : Cy) (is : List Nat) (g : DG) : TG := fun v σ H Q => ∃ O ρ d, SR Y O ρ σ H ∧ Rep Y.G (Zo Y.Ze O) H d v ∧ GPost Y is O ρ σ H Q (g d ρ)
def PDG (X : Cx) (Y : Cy) (is : List Nat) (tg : Expr) (g : DG) : Prop := Lk X Y → PG X tg (tDG Y is g)
theorem OffS.trans {is : List Nat} {σ σ' σ2 : L2.St} (h : OffS is σ σ') (k : OffS is σ' σ2) : OffS is σ σ2 := ⟨k.1.trans h.1, fun j hj => (k.2 j hj).trans (h.2 j hj)⟩
theorem impPG {X : Cx} {tg : Expr} {t t' : TG} (h : PG X tg t) (i : ∀ v σ H Q, t' v σ H Q → t v σ H Q) : PG X tg t' := ⟨fun pins s σ H v u Q I r q => h.run pins s σ H v u Q I r (i v σ H Q q)⟩
theorem dg_name {i : Nat} {x : Str} (hi : X.N[i]? = some x) (hn : i < Y.n) (hx : Loc X.env.scope x) (hf : X.fn x = true ∨ X.env.scope.names.lookup x = some .local := by first | exact .inl rfl | exact .inr rfl | assumption) : PDG X Y [i] (.Name x pos) (gVar i) := fun k => impPG (pg_name k.nd hi hx hf) fun v σ H Q ⟨O, ρ, d, s, r, q⟩ => by
  unfold gVar at q
  cases e : setV i d ρ with
  | no => rw [e] at q; exact q.elim
  | ex x => rw [e] at q; exact q.elim
  | ok ρ' =>
    rw [e] at q
    obtain ⟨O', st, s', _, ho⟩ := s.setv e hn r
    exact q O' _ st s' OffS.set fun h => ho (h i List.mem_cons_self)
theorem drop_cons {α : Type} {l : List α} {i : Nat} (h : i < l.length) : ∃ d, l[i]? = some d ∧ l.drop i = d :: l.drop (i + 1) := by
  refine ⟨l[i], List.getElem?_eq_getElem h, ?_⟩
  exact List.drop_eq_getElem_cons h
theorem ds_for {iter : Expr} {body : List Stmt} {fi : DI} {g : DG} {F : DS} {cl is : List Nat} (hi : PDI X Y tg iter fi) (hg : PDG X Y is tg g) (hb : PDSs X Y body F)
    (hs : ∀ x, foldedSetIterable iter X.env x = pure x := by intro _; rfl) (hca : Y.ca = true := by rfl) : PDS X Y (.For tg iter body [] pos) (sFor fi g cl F) := fun k => impPS (ps_for k.po (k.calm hca) (hi k) (hg k) (hb k) hs) fun N σ H ⟨O, ρ, s, q⟩ => by
  refine ⟨O, ρ, s, ?_⟩
  unfold sFor at q
  cases ea : fi ρ with
  | no => rw [ea] at q; exact q
  | ex e => rw [ea] at q; exact fun c od H1 s1 xr => q O σ H1 c od (Stp.same s1) (s.same s1) xr
  | ok l =>
    rw [ea] at q
    simp only [R.st_ok] at q
    intro J H1 s1 w
    obtain ⟨O0, st0, s0⟩ := clrD_SR cl (s.same s1)
    refine ⟨fun i m σ' H' => m = l.length - i ∧ i ≤ l.length ∧ ∃ O' ρ', Stp O H1 O' H' ∧ SR Y O' ρ' σ' H' ∧ SPost Y O' H' N (forL g cl F (l.drop i) ρ'), ⟨_, rfl, Nat.zero_le _, O0, _, st0, s0, SPost.fwd ((Stp.same s1).trans st0) q⟩, ?_⟩
    rintro i m σ' H' ⟨rfl, hi, O', ρ', st', s', q'⟩
    have wz : ∀ a, Zo Y.Ze O' a → Zo Y.Ze O a ∨ H1 a = none := fun a z => z.elim (fun z => .inl (.inl z)) fun z => (st'.2 a z).elim (fun z => .inl (.inr z)) .inr
    have ww := w i H' (Zo Y.Ze O') (fun a o n e => st'.1 a o (fun z => n (.inr z)) e) wz
    by_cases hlt : i < l.length
    · obtain ⟨d, hd, e⟩ := drop_cons hlt
      obtain ⟨go, yl⟩ := ww.1 d hd
      rw [e] at q'
      refine .inr ⟨go, fun σ2 H2 => i + 1 ≤ l.length ∧ ∃ O2 ρ2, Stp O H1 O2 H2 ∧ SR Y O2 ρ2 σ2 H2 ∧ SPost Y O2 H2 N (forL g cl F (l.drop (i + 1)) ρ2), fun σ2 H2 h => ⟨l.length - (i + 1), by omega, rfl, h.1, h.2⟩, fun x H3 y => ?_⟩
      obtain ⟨s3, r3⟩ := yl x H3 y
      refine ⟨O', ρ', d, s'.same s3, r3, ?_⟩
      simp only [forL] at q'
      cases eg : g d ρ' with
      | no => rw [eg] at q'; exact q'.elim
      | ex e => rw [eg] at q'; exact q'.elim
      | ok ρ3 =>
        rw [eg] at q'
        simp only [R.bind_ok] at q'
        intro O4 σ4 st4 s4 _ _
        refine ⟨O4, ρ3, s4, ?_⟩
        have stA := st'.trans ((Stp.same s3).trans st4)
        cases eF : F ρ3 with
        | no => rw [eF] at q'; exact q'.elim
        | ex e => rw [eF] at q'; exact q'.elim
        | ok o =>
          rw [eF] at q'
          cases o with
          | nx ρ5 =>
            intro O5 σ5 H5 st5 s5
            obtain ⟨O6, st6, s6⟩ := clrD_SR cl s5
            exact ⟨hlt, O6, _, stA.trans (st5.trans st6), s6, SPost.fwd ((Stp.same s3).trans (st4.trans (st5.trans st6))) q'⟩
          | ct ρ5 =>
            intro O5 σ5 H5 st5 s5
            obtain ⟨O6, st6, s6⟩ := clrD_SR cl s5
            exact ⟨hlt, O6, _, stA.trans (st5.trans st6), s6, SPost.fwd ((Stp.same s3).trans (st4.trans (st5.trans st6))) q'⟩
          | bk ρ5 => exact fun O5 σ5 H5 st5 s5 => q' O5 σ5 H5 ((Stp.same s3).trans (st4.trans st5)) s5
          | rt d5 ρ5 => exact fun O5 σ5 H5 v st5 s5 => q' O5 σ5 H5 v ((Stp.same s3).trans (st4.trans st5)) s5
          | xx e5 ρ5 => exact fun O5 σ5 H5 c od st5 s5 => q' O5 σ5 H5 c od ((Stp.same s3).trans (st4.trans st5)) s5
    · have e : i = l.length := by omega
      subst e
      rw [List.drop_length] at q'
      exact .inl ⟨ww.2 (Nat.le_refl _), q' O' σ' H' Stp.refl s'⟩
end
end Tw

set_option maxHeartbeats 2000000
namespace Tw
open PySem PySem.Spec L2
open PyProof.Rows hiding St
section
variable {Y : Cy} {O : Addr → Prop} {ρ : DEnv} {σ : L2.St} {H H' : Hp}
/-- the reading in a comprehension's block: no exception, more that may not be leaned on -/
def Cy.blk (Y : Cy) (Ze : Addr → Prop) : Cy := { Y with Ze := Ze, E := fun _ _ _ _ => False }
theorem SR.blk (s : SR Y O ρ σ H) (sm : Same H H') {p : Addr} (h0 : H p = none) (h1 : H' p ≠ none) : SR (Y.blk fun a => Y.Ze a ∨ a = p) O ρ σ H' := by
  obtain ⟨α, s⟩ := s
  have zz : ∀ a, Zo (fun a => Y.Ze a ∨ a = p) O a → Zo Y.Ze O a ∨ H a = none := fun a z => by
    rcases z with (z | rfl) | z
    · exact .inl (.inl z)
    · exact .inr h0
    · exact .inl (.inr z)
  refine ⟨α, s.len, fun i d e => ?_, fun i d e => ?_, fun i d e => ?_, fun i d e => ?_, s.inj, s.oeq, fun a z => ?_, fun a z q => s.ot a z (sm.free q), s.ptr.m (fun _ _ r => r.mono (Same.sub sm) zz) rfl⟩
  · obtain ⟨v, e1, r⟩ := s.val i d e
    exact ⟨v, e1, r.mono (Same.sub sm) zz⟩
  · obtain ⟨e1, n, r⟩ := s.own i d e
    refine ⟨e1, fun z => ?_, r.mono sm zz⟩
    rcases z with z | z
    · exact n z
    · exact s.ot (α i) ((s.oeq _).mpr ⟨i, ⟨d, .inl e⟩, rfl⟩) (by rw [z]; exact h0)
  · obtain ⟨e1, n, c, ks, l, dx, vs, e2, e3, e4, r⟩ := s.slf i d e
    exact ⟨e1, n, c, ks, l, dx, vs, e2, sm _ _ e3, e4, RepGL.mono sm zz (fun j d' h => ⟨rfl, d', h⟩) r⟩
  · obtain ⟨r, k⟩ := s.gho i d e
    exact ⟨r.mono sm zz, k⟩
  · rcases z with z | rfl
    · exact fun q => s.zt a z (sm.free q)
    · exact h1
theorem okW_at {vs : List Nat} {v : Nat} (h : okW vs ρ = true) (hv : v ∈ vs) : ρ[v]? = some none ∨ ∃ d, ρ[v]? = some (some (.val d)) := by
  have := List.all_eq_true.mp h v hv
  split at this
  · rename_i e; exact .inl e
  · rename_i d e; exact .inr ⟨d, e⟩
  · cases this
theorem wipD_get {vs : List Nat} {j : Nat} : (wipD vs ρ)[j]? = if j ∈ vs then (if j < ρ.length then some none else none) else ρ[j]? := by
  induction vs with
  | nil => simp [wipD]
  | cons v vs ih =>
    have e : wipD (v :: vs) ρ = (wipD vs ρ).set v none := rfl
    have hl : (wipD vs ρ).length = ρ.length := by
      clear ih e
      induction vs with
      | nil => rfl
      | cons w vs ih => show ((wipD vs ρ).set w none).length = _; rw [List.length_set, ih]
    rw [e]
    by_cases hj : v = j
    · subst hj
      rw [if_pos List.mem_cons_self]
      by_cases hv : v < ρ.length
      · rw [if_pos hv, List.getElem?_set_self (by rw [hl]; exact hv)]
      · rw [if_neg hv, List.getElem?_eq_none]
        rw [List.length_set, hl]
        omega
    · rw [List.getElem?_set_ne hj, ih]
      by_cases h : j ∈ vs
      · rw [if_pos h, if_pos (List.mem_cons_of_mem _ h)]
      · rw [if_neg h, if_neg fun z => (List.mem_cons.mp z).elim (fun z => hj z.symm) h]
theorem wipD_len {vs : List Nat} : (wipD vs ρ).length = ρ.length := by
  induction vs with
  | nil => rfl
  | cons w vs ih => show ((wipD vs ρ).set w none).length = _; rw [List.length_set, ih]
/-- the block's names forgotten -/
theorem SR.wipe {vs : List Nat} (s : SR Y O ρ σ H) (h : okW vs ρ = true) : SR Y O (wipD vs ρ) (wipe σ vs) H := by
  obtain ⟨α, s⟩ := s
  have back : ∀ {j : Nat} {x : Slot}, (wipD vs ρ)[j]? = some (some x) → j ∉ vs ∧ ρ[j]? = some (some x) := fun {j x} e => by
    rw [wipD_get] at e
    split at e
    · split at e <;> cases e
    · rename_i n; exact ⟨n, e⟩
  have fwd : ∀ {j : Nat}, isOwn ρ j → j ∉ vs := fun {j} h' n => by
    obtain ⟨d, h'⟩ := h'
    rcases okW_at h n with e | ⟨d', e⟩ <;> rcases h' with k | k | k <;> rw [e] at k <;> cases k
  have own : ∀ j, isOwn (wipD vs ρ) j ↔ isOwn ρ j := fun j => by
    refine ⟨fun ⟨d, k⟩ => ?_, fun k => ?_⟩
    · rcases k with k | k | k
      · exact ⟨d, .inl (back k).2⟩
      · exact ⟨d, .inr (.inl (back k).2)⟩
      · exact ⟨d, .inr (.inr (back k).2)⟩
    · have n := fwd k
      obtain ⟨d, k⟩ := k
      refine ⟨d, ?_⟩
      rw [wipD_get, if_neg n]
      exact k
  refine ⟨α, ⟨(wipe_length σ vs).trans s.len.1, by rw [wipD_len]; exact s.len.2⟩, fun i d e => ?_, fun i d e => ?_, fun i d e => ?_, fun i d e => ?_, fun i j hi hj e => s.inj i j ((own i).mp hi) ((own j).mp hj) e, fun a => ?_, s.zt, s.ot, s.ptr.to (fun _ _ r => r) fun i x e _ => by obtain ⟨n, e⟩ := back e; exact ⟨e, wipe_out n⟩⟩
  · obtain ⟨n, e⟩ := back e
    obtain ⟨v, e1, r⟩ := s.val i d e
    exact ⟨v, by rw [wipe_out n]; exact e1, r⟩
  · obtain ⟨n, e⟩ := back e
    obtain ⟨e1, r⟩ := s.own i d e
    exact ⟨by rw [wipe_out n]; exact e1, r⟩
  · obtain ⟨n, e⟩ := back e
    obtain ⟨e1, n', c, ks, l, dx, us, e2, e3, e4, r⟩ := s.slf i d e
    refine ⟨by rw [wipe_out n]; exact e1, n', c, ks, l, dx, us, e2, e3, e4, RepGL.weak (fun _ z => z) (fun j d' hj => ⟨d', ?_⟩) r⟩
    rw [wipD_get, if_neg (fwd ⟨d', .inr (.inr hj)⟩)]
    exact hj
  · obtain ⟨n, e⟩ := back e
    exact s.gho i d e
  · rw [s.oeq]
    exact ⟨fun ⟨j, k, e⟩ => ⟨j, (own j).mpr k, e⟩, fun ⟨j, k, e⟩ => ⟨j, (own j).mp k, e⟩⟩
theorem wipe_get {vs : List Nat} {j : Nat} : (L2.wipe σ vs)[j]? = if j ∈ vs then (if j < σ.length then some none else none) else σ[j]? := by
  induction vs with
  | nil => simp [L2.wipe]
  | cons v vs ih =>
    have e : L2.wipe σ (v :: vs) = (L2.wipe σ vs).set v none := rfl
    rw [e]
    by_cases hj : v = j
    · subst hj
      rw [if_pos List.mem_cons_self]
      by_cases hv : v < σ.length
      · rw [if_pos hv, List.getElem?_set_self (by rw [wipe_length]; exact hv)]
      · rw [if_neg hv, List.getElem?_eq_none]
        rw [List.length_set, wipe_length]
        omega
    · rw [List.getElem?_set_ne hj, ih]
      by_cases h : j ∈ vs
      · rw [if_pos h, if_pos (List.mem_cons_of_mem _ h)]
      · rw [if_neg h, if_neg fun z => (List.mem_cons.mp z).elim (fun z => hj z.symm) h]
theorem OffS.wipe {vs is : List Nat} {σ2 : L2.St} (h : OffS is (L2.wipe σ vs) σ2) (k : ∀ i ∈ is, i ∈ vs) : L2.wipe σ2 vs = L2.wipe σ vs := by
  refine List.ext_getElem? fun j => ?_
  have hl : σ2.length = σ.length := h.1.trans (wipe_length σ vs)
  rw [wipe_get, wipe_get, hl]
  by_cases hj : j ∈ vs
  · rw [if_pos hj, if_pos hj]
  · rw [if_neg hj, if_neg hj, h.2 j fun z => hj (k j z), wipe_out hj]
theorem wip_noown {vs : List Nat} {i : Nat} (hw : okW vs ρ = true) (hi : i ∈ vs) : ¬ isOwn (wipD vs ρ) i := fun ⟨d, k⟩ => by
  simp only [wipD_get, if_pos hi] at k
  rcases k with k | k | k <;> split at k <;> cases k
theorem compL_ex {g : DG} {c : DT} {e : DE} {ρ : DEnv} {x : Ex} : ∀ {l : List D}, compL g c e ρ l = .ex x → False
  | [], h => by cases h
  | d :: l, h => by
    simp only [compL] at h
    split at h
    · split at h
      · split at h
        · split at h <;> cases h
        · cases h
      · exact compL_ex h
      · cases h
    · cases h
/-- readings with more that may not be leaned on -/
def tX (Y : Cy) (f : DE) : TE := fun σ H Q => ∃ Ze, tD (Y.blk Ze) f σ H Q
def tXT (Y : Cy) (f : DT) : TT := fun σ H Q => ∃ Ze, tDT (Y.blk Ze) f σ H Q
def tXG (Y : Cy) (is : List Nat) (g : DG) : TG := fun v σ H Q => ∃ Ze, tDG (Y.blk Ze) is g v σ H Q
def tXI (Y : Cy) (f : DI) : TI := fun σ H Q => ∃ Ze, tDIw (Y.blk Ze) f σ H Q
end
section
variable {X : Cx} {Y : Cy} {O : Addr → Prop} {ρ : DEnv} {σ : L2.St} {H : Hp}
theorem Lk.blk (k : Lk X Y) (s : Shared) (H : Hp) (scope : Scope) (cenv : Env) (fp : List Addr) (Ze : Addr → Prop) : Lk (X.blk s H scope cenv fp) (Y.blk Ze) :=
  ⟨k.K, k.ln, takes0, k.rm, k.hd, k.nd, PassesOwn.never, k.calm⟩
/-- the loop of a comprehension -/
theorem comp_core {vs is : List Nat} {g : DG} {c : DT} {e : DE} {J : It} {l ys : List D} {H0 : Hp} {Qd : Addr → Hp → Prop} (s : SR Y O ρ σ H0) (hw : okW vs ρ = true) (hl : l.length ≤ lineD) (hk : ∀ i ∈ is, i ∈ vs) (w : WalkW Y.G (Zo Y.Ze O) H0 J l) (hc : compL g c e (wipD vs ρ) l = .ok ys)
    (hq : ∀ D H' us, Same H0 H' → H0 D = none → H' D = some (.lst us) → RepL Y.G (fun a => Zo Y.Ze O a ∨ a = D) H' ys us → Qd D H') :
    ∀ D, H0 D = none → ∃ W : Nat → Nat → Hp → Prop, (∃ m, W 0 m (upd H0 D (.lst []))) ∧ ∀ i m H, W i m H →
      (J.stop i H ∧ Qd D H) ∨ (J.go i H ∧ ∃ Nx : Hp → Prop, (∀ H', Nx H' → ∃ m', m' < m ∧ W (i + 1) m' H') ∧ ∀ x H', J.yld i H x H' → tXG Y is g x (L2.wipe σ vs) H' fun σ2 H2 => L2.wipe σ2 vs = L2.wipe σ vs ∧ tXT Y c σ2 H2 fun b H3 =>
        if b = true then tX Y e σ2 H3 fun y H4 => ∃ acc, H4 D = some (.lst acc) ∧ acc.length < sizeLine ∧ Nx (upd H4 D (.lst (acc ++ [y]))) else Nx H3) := by
  intro D hD
  let P : Nat → Hp → Prop := fun i H' => Same H0 H' ∧ ∃ acc us, H' D = some (.lst us) ∧ RepL Y.G (fun a => Zo Y.Ze O a ∨ a = D) H' acc us ∧ acc.length ≤ i ∧ ∃ rest, compL g c e (wipD vs ρ) (l.drop i) = .ok rest ∧ ys = acc ++ rest
  refine ⟨fun i m H' => m = l.length - i ∧ i ≤ l.length ∧ P i H', ⟨_, rfl, Nat.zero_le _, same_new hD, [], [], upd_same, rfl, Nat.zero_le _, ys, by rw [List.drop_zero]; exact hc, rfl⟩, ?_⟩
  rintro i m H' ⟨rfl, hi, sm, acc, us, hu, ru, ha, rest, hr, hy⟩
  have zz : ∀ a, (fun a => Zo Y.Ze O a ∨ a = D) a → Zo Y.Ze O a ∨ H0 a = none := fun a z => z.elim .inl fun e => .inr (by rw [e]; exact hD)
  have ww := w i H' (fun a => Zo Y.Ze O a ∨ a = D) sm zz
  have hne : H' D ≠ none := by rw [hu]; exact fun z => by cases z
  by_cases hlt : i < l.length
  · obtain ⟨d, hd, e1⟩ := drop_cons hlt
    obtain ⟨go, yl⟩ := ww.1 d hd
    rw [e1] at hr
    refine .inr ⟨go, fun H2 => i + 1 ≤ l.length ∧ P (i + 1) H2, fun H2 h => ⟨l.length - (i + 1), by omega, rfl, h.1, h.2⟩, fun x H3 y => ?_⟩
    obtain ⟨s3, r3⟩ := yl x H3 y
    have sb : SR (Y.blk fun a => Y.Ze a ∨ a = D) O (wipD vs ρ) (L2.wipe σ vs) H3 := (s.wipe hw).blk (sm.trans s3) hD fun q => hne (s3.free q)
    have zo : ∀ a, Zo (fun a => Y.Ze a ∨ a = D) O a ↔ Zo Y.Ze O a ∨ a = D := fun a => by
      constructor
      · rintro ((z | z) | z)
        · exact .inl (.inl z)
        · exact .inr z
        · exact .inl (.inr z)
      · rintro ((z | z) | z)
        · exact .inl (.inl z)
        · exact .inr z
        · exact .inl (.inr z)
    refine ⟨fun a => Y.Ze a ∨ a = D, O, wipD vs ρ, d, sb, r3.weak fun a z => (zo a).mp z, ?_⟩
    simp only [compL] at hr
    cases eg : g d (wipD vs ρ) with
    | no => rw [eg] at hr; cases hr
    | ex e => rw [eg] at hr; cases hr
    | ok ρ1 =>
      rw [eg] at hr
      simp only at hr
      intro O1 σ1 st1 s1 off ow
      refine ⟨off.wipe hk, fun a => Y.Ze a ∨ a = D, O1, ρ1, s1, ?_⟩
      have sub1 : ∀ a, O1 a → O a ∨ H3 a = none := st1.2
      cases ec : c ρ1 with
      | no => rw [ec] at hr; cases hr
      | ex e => rw [ec] at hr; cases hr
      | ok b =>
        rw [ec] at hr
        intro H4 s4
        cases b with
        | false =>
          rw [if_neg Bool.false_ne_true]
          have s04 := sm.trans (s3.trans s4)
          exact ⟨hlt, s04, acc, us, (s3.trans s4) _ _ hu, ru.same (s3.trans s4), Nat.le_succ_of_le ha, rest, hr, hy⟩
        | true =>
          rw [if_pos rfl]
          simp only at hr
          refine ⟨fun a => Y.Ze a ∨ a = D, O1, ρ1, s1.same s4, ?_⟩
          cases ee : e ρ1 with
          | no => rw [ee] at hr; cases hr
          | ex x => rw [ee] at hr; cases hr
          | ok d2 =>
            rw [ee] at hr
            simp only at hr
            cases er : compL g c e (wipD vs ρ) (l.drop (i + 1)) with
            | no => rw [er] at hr; cases hr
            | ex x => rw [er] at hr; cases hr
            | ok rest2 =>
              rw [er] at hr
              cases hr
              intro v H5 s5 rv
              have s35 := s3.trans (s4.trans s5)
              have hu5 : H5 D = some (.lst us) := s35 _ _ hu
              have ll := ru.length
              refine ⟨us, hu5, ?_, hlt, fun b o q => ?_, acc ++ [d2], us ++ [v], upd_same, ?_, by rw [List.length_append, List.length_singleton]; omega, rest2, er, by rw [hy, List.append_assoc]; rfl⟩
              · rw [lineD_eq]; omega
              · rw [upd_ne (ne_of_none q hD)]
                exact s35 b o (sm b o q)
              · have sb : Sub (fun a => Zo Y.Ze O a ∨ a = D) H5 (upd H5 D (.lst (us ++ [v]))) := fun b o n q => by
                  rw [upd_ne fun e => n (.inr e)]
                  exact q
                refine RepL.mono sb (fun a z => .inl z) ((ru.same s35).append (RepL.one ?_))
                refine Rep.mono (Same.sub (Same.refl H5)) (fun a z => ?_) rv
                rcases z with (z | z) | z
                · exact .inl (.inl (.inl z))
                · exact .inl (.inr (ow (fun i hi' => wip_noown hw (hk i hi')) a z))
                · exact .inl (.inl (.inr z))
  · have e1 : i = l.length := by omega
    subst e1
    rw [List.drop_length] at hr
    cases hr
    rw [List.append_nil] at hy
    subst hy
    exact .inl ⟨ww.2 (Nat.le_refl _), hq D H' us sm hD hu ru⟩
def PDTs (X : Cx) (Y : Cy) (ifs : List Expr) (f : DT) : Prop := Lk X Y → PTs X ifs (tDT Y f)
theorem impPTs {X : Cx} {e : List Expr} {t t' : TT} (h : PTs X e t) (i : ∀ σ H Q, t' σ H Q → t σ H Q) : PTs X e t' := ⟨fun pins s σ H Q I q => h.run pins s σ H Q I (i σ H Q q)⟩
theorem dts_nil : PDTs X Y [] tYesD := fun k => impPTs pts_nil fun σ H Q ⟨O, ρ, s, q⟩ => q H (Same.refl H)
theorem PE.xall {e : Expr} {f : DE} (h : ∀ Ze, PE X e (tD (Y.blk Ze) f)) : PE X e (tX Y f) := ⟨fun pins s σ H Q I ⟨Ze, q⟩ => (h Ze).run pins s σ H Q I q⟩
theorem PTs.xall {e : List Expr} {f : DT} (h : ∀ Ze, PTs X e (tDT (Y.blk Ze) f)) : PTs X e (tXT Y f) := ⟨fun pins s σ H Q I ⟨Ze, q⟩ => (h Ze).run pins s σ H Q I q⟩
theorem PG.xall {e : Expr} {is : List Nat} {f : DG} (h : ∀ Ze, PG X e (tDG (Y.blk Ze) is f)) : PG X e (tXG Y is f) := ⟨fun pins s σ H v u Q I r ⟨Ze, q⟩ => (h Ze).run pins s σ H v u Q I r q⟩
theorem PI.xall {tg e : Expr} {f : DI} (h : ∀ Ze, PI X tg e (tDIw (Y.blk Ze) f)) : PI X tg e (tXI Y f) := ⟨fun pins s σ H Q I ⟨Ze, q⟩ => (h Ze).run pins s σ H Q I q⟩
variable {elt tg iter : Expr} {ifs : List Expr} {scope : Scope} {own : List (Str × Nat)} {pos : Pos} {fi : DI} {g : DG} {c : DT} {e : DE} {is : List Nat}
/-- a comprehension's reading, from what is wanted of its list -/
theorem comp_imp {Qv : VK} (hk : ∀ i ∈ is, i ∈ own.map (·.2)) (σ : L2.St) (H : Hp) (O : Addr → Prop) (ρ : DEnv) (s : SR Y O ρ σ H) (he : ∀ e', fi ρ = .ex e' → ∀ c od H', Same H H' → ExRep Y.G (Zo Y.Ze O) H' e' c od → Y.E c od σ H')
    (h : ∃ l ys, (fi ρ = .ok l ∧ l.length ≤ lineD ∧ okW (own.map (·.2)) ρ = true ∧ compL g c e (wipD (own.map (·.2)) ρ) l = .ok ys ∧ ∀ D H' us, Same H H' → H D = none → H' D = some (.lst us) → RepL Y.G (fun a => Zo Y.Ze O a ∨ a = D) H' ys us → Qv (.ref D) H') ∨ ∃ e', fi ρ = .ex e') :
    tLc (tDIw Y fi) (tXG Y is g) (tXT Y c) (tX Y e) (own.map (·.2)) σ H Qv := by
  refine ⟨O, ρ, s, ?_⟩
  obtain ⟨l, ys, h | ⟨e', h⟩⟩ := h
  · obtain ⟨ea, hl, hw, hc, hq⟩ := h
    rw [ea]
    intro J H1 s1 w D hD
    exact comp_core (Qd := fun D H' => Qv (.ref D) H') (s.same s1) hw hl hk w hc (fun D H' us s2 h0 h1 r => hq D H' us (s1.trans s2) (s1.free h0) h1 r) D hD
  · rw [h]
    exact he e' h
theorem pd_comp (hi : PDIw X Y tg iter fi) (ok : BlkOk X.N X.env.scope scope own) (hk : ∀ i ∈ is, i ∈ own.map (·.2))
    (hg : ∀ (Ze : Addr → Prop) (s : Shared) (H : Hp) (C : Addr) (cl : List (Str × Addr)) (fp : List Addr), PDG (X.blk s H scope (compEnvC scope cl C X.env) fp) (Y.blk Ze) is tg g)
    (ht : ∀ (Ze : Addr → Prop) (s : Shared) (H : Hp) (C : Addr) (cl : List (Str × Addr)) (fp : List Addr), PDTs (X.blk s H scope (compEnvC scope cl C X.env) fp) (Y.blk Ze) ifs c)
    (he : ∀ (Ze : Addr → Prop) (s : Shared) (H : Hp) (C : Addr) (cl : List (Str × Addr)) (fp : List Addr), PD (X.blk s H scope (compEnvC scope cl C X.env) fp) (Y.blk Ze) elt e)
    (hs : ∀ x, foldedSetIterable iter X.env x = pure x := by intro _; rfl) (hca : Y.ca = true := by rfl) : PD X Y (.ListComp elt [⟨tg, iter, ifs, 0⟩] scope pos) (eComp fi (own.map (·.2)) g c e) := fun k => by
  refine impPE (pe_lc (k.calm hca) k.nd (hi k) ok (fun s H C cl fp => PG.xall fun Ze => hg Ze s H C cl fp (k.blk s H scope _ fp Ze)) (fun s H C cl fp => PTs.xall fun Ze => ht Ze s H C cl fp (k.blk s H scope _ fp Ze)) (fun s H C cl fp => PE.xall fun Ze => he Ze s H C cl fp (k.blk s H scope _ fp Ze)) hs) fun σ H Q ⟨O, ρ, s, q⟩ => ?_
  unfold eComp at q
  refine comp_imp hk σ H O ρ s (fun e' ee => by rw [ee] at q; exact q) ?_
  cases ea : fi ρ with
  | no => rw [ea] at q; exact q.elim
  | ex e' => exact ⟨[], [], .inr ⟨e', rfl⟩⟩
  | ok l =>
    rw [ea] at q
    simp only [R.bind_ok] at q
    split at q
    · rename_i hl
      cases ec : compL g c e (wipD (own.map (·.2)) ρ) l with
      | no => rw [ec] at q; exact q.elim
      | ex e' => 
        rw [ec] at q
        exact (compL_ex ec).elim
      | ok ys =>
        rw [ec] at q
        refine ⟨l, ys, .inl ⟨rfl, hl.1, hl.2, ec, fun D H' us s1 h0 h1 r => q _ H' s1 ⟨D, us, rfl, fun z => s.zt D z h0, h1, r.weak fun a z => .inl z⟩⟩⟩
    · exact q.elim
theorem ds_comp {i : Nat} {y : Str} {py spos : Pos} (hy : X.N[i]? = some y) (hn : i < Y.n) (hyl : X.env.scope.names.lookup y = some .local) (hsw : swapsWith (.ListComp elt [⟨tg, iter, ifs, 0⟩] scope pos) (some (.Name y py)) spos.line X.env = pure true)
    (hi : PDIw X Y tg iter fi) (ok : BlkOk X.N X.env.scope scope own) (hk : ∀ i ∈ is, i ∈ own.map (·.2))
    (hg : ∀ (Ze : Addr → Prop) (s : Shared) (H : Hp) (C : Addr) (cl : List (Str × Addr)) (fp : List Addr), PDG (X.blk s H scope (compEnvC scope cl C X.env) fp) (Y.blk Ze) is tg g)
    (ht : ∀ (Ze : Addr → Prop) (s : Shared) (H : Hp) (C : Addr) (cl : List (Str × Addr)) (fp : List Addr), PDTs (X.blk s H scope (compEnvC scope cl C X.env) fp) (Y.blk Ze) ifs c)
    (he : ∀ (Ze : Addr → Prop) (s : Shared) (H : Hp) (C : Addr) (cl : List (Str × Addr)) (fp : List Addr), PD (X.blk s H scope (compEnvC scope cl C X.env) fp) (Y.blk Ze) elt e)
    (hs : ∀ x, foldedSetIterable iter X.env x = pure x := by intro _; rfl) (hca : Y.ca = true := by rfl) : PDS X Y (.Assign [.Name y py] (.ListComp elt [⟨tg, iter, ifs, 0⟩] scope pos) spos) (sSet i (eComp fi (own.map (·.2)) g c e)) := fun k => by
  refine impPS (ps_setLc (k.calm hca) k.nd hy hyl hsw (hi k) ok (fun s H C cl fp => PG.xall fun Ze => hg Ze s H C cl fp (k.blk s H scope _ fp Ze)) (fun s H C cl fp => PTs.xall fun Ze => ht Ze s H C cl fp (k.blk s H scope _ fp Ze)) (fun s H C cl fp => PE.xall fun Ze => he Ze s H C cl fp (k.blk s H scope _ fp Ze)) hs) fun N σ H ⟨O, ρ, s, q⟩ => ?_
  unfold sSet eComp at q
  refine comp_imp hk σ H O ρ s (fun e' ee => by rw [ee] at q; exact fun c od H' s' xr => q O σ H' c od (Stp.same s') (s.same s') xr) ?_
  cases ea : fi ρ with
  | no => rw [ea] at q; exact q.elim
  | ex e' => exact ⟨[], [], .inr ⟨e', rfl⟩⟩
  | ok l =>
    rw [ea] at q
    simp only [R.bind_ok] at q
    split at q
    · rename_i hl
      cases ec : compL g c e (wipD (own.map (·.2)) ρ) l with
      | no => rw [ec] at q; exact q.elim
      | ex e' => exact (compL_ex ec).elim
      | ok ys =>
        rw [ec] at q
        refine ⟨l, ys, .inl ⟨rfl, hl.1, hl.2, ec, fun D H' us s1 h0 h1 r => ?_⟩⟩
        simp only [R.bind_ok, R.st_ok] at q
        cases es : setV i (.lst ys) ρ with
        | no => rw [es] at q; exact q.elim
        | ex e => exact (setV_no es).elim
        | ok ρ' =>
          rw [es] at q
          obtain ⟨O', st, s', _⟩ := (s.same s1).setv es hn (v := .ref D) ⟨D, us, rfl, fun z => s.zt D z h0, h1, r.weak fun a z => .inl z⟩
          exact q O' _ H' ((Stp.same s1).trans st) s'
    · exact q.elim
end
end Tw

set_option maxHeartbeats 2000000
namespace Tw
open PySem PySem.Spec L2
open PyProof.Rows hiding St
section
variable {X : Cx} {Y : Cy} {O : Addr → Prop} {ρ : DEnv} {σ : L2.St} {H : Hp} {a b e o : Expr} {fa fb : DE} {pos p p2 apos cpos pos' : Pos} {x : Str} {i : Nat}
/-- the receiver x is the def's own container -/
theorem own_at {d : D} (s : SR Y O ρ σ H) (hi : ρ[i]? = some (some (.own d))) : ∃ p, σ[i]? = some (some (.ref p)) ∧ O p ∧ RepW Y.G (Zo Y.Ze O) H d (.ref p) := by
  obtain ⟨α, s⟩ := s
  obtain ⟨e, _, r⟩ := s.own i d hi
  exact ⟨_, e, (s.oeq _).mpr ⟨i, ⟨d, .inl hi⟩, rfl⟩, r⟩
/-- the write of the container at i -/
theorem SR.write {d d' : D} {p : Addr} {o : HO} (s : SR Y O ρ σ H) (hi : ρ[i]? = some (some (.own d))) (hp : σ[i]? = some (some (.ref p))) (r : RepW Y.G (Zo Y.Ze O) (upd H p o) d' (.ref p)) : SR Y O (ρ.set i (some (.own d'))) σ (upd H p o) := by
  obtain ⟨p', e, _, _, s'⟩ := s.mut (d' := d') (o := o) hi fun q eq _ _ _ => by
    rw [hp] at eq; cases eq; exact r
  rw [hp] at e
  cases e
  exact s'
theorem sub_upd {p : Addr} {o : HO} (h : O p) : Sub (Zo Y.Ze O) H (upd H p o) := fun a u n e => by
  rw [upd_ne fun q => n (.inr (by rw [q]; exact h))]
  exact e
/-- x.append(e) -/
theorem ds_append {i : Nat} (hN : X.N[i]? = some x) (ha : PD X Y a fa) (hv : Vis X.env.scope x := by first | exact Or.inl rfl | exact Or.inr (Or.inl rfl) | exact Or.inr (Or.inr rfl)) (hd : (x == ("__debug__" : Str)) = false := by decide) (hcd : (x == ("__classdict__" : Str)) = false := by decide)
    (hbase : attributeBase (.Name x p) "append" X.env (eval (.Name x p) X.env) = eval (.Name x p) X.env := by rfl)
    (hfew : ((backTo cpos (starEach (a :: []) X.env)).all (fun x => !x.1) && (backToKw cpos (keywordEach [] X.env)).all (fun x => x.1.isSome)
      && decide ((a :: []).length + ([] : List Keyword).length + (if ([] : List Keyword).isEmpty then 0 else 1) < 30)) = true := by rfl)
    (hline : (apos.endLine == cpos.line) = true := by rfl) (hs : starEach (a :: []) X.env = (false, eval a X.env) :: starEach [] X.env := by rfl) (hplain : (backTo cpos (starEach [] X.env)).any (·.1) = false := by rfl)
    (hsw : swapsWith (.Call (.Attribute (.Name x p) "append" apos) [a] [] cpos) none pos.line X.env = pure false := by rfl) :
    PDS X Y (.Expr (.Call (.Attribute (.Name x p) "append" apos) [a] [] cpos) pos) (sApp i fa) := fun k => by
  refine impPS (ps_expr (pe_bm PySem.F.plainAttrs_list PySem.F.slot_list_append PySem.F.type_list_append mt_append (pe_var hN hv hd hcd) (pa_cons (ha k) pa_nil hs) hbase hfew hline hs hplain) hsw) fun N σ H ⟨O, ρ, s, q⟩ => ?_
  unfold sApp at q
  split at q
  · rename_i l hi
    obtain ⟨pl, hp, Op, rl⟩ := own_at s hi
    obtain ⟨_, vs, e, hl, rv⟩ := rl
    cases e
    refine ⟨.ref pl, hp, .inl ⟨rfl, vs, SqL.of hl⟩, exp_then s q fun d ea q v H1 s1 r1 => ?_⟩
    split at q
    · rename_i hlen
      have hl1 := s1 _ _ hl
      refine ⟨pl, vs, v, rfl, rfl, hl1, by rw [lineD_eq, ← rv.length]; exact hlen, ?_⟩
      have s' := (s.same s1).write (d' := .lst (l ++ [d])) (o := .lst (vs ++ [v])) hi hp ⟨pl, _, rfl, upd_same, RepL.mono (sub_upd Op) (fun _ z => .inl z) ((rv.same s1).append (RepL.one r1))⟩
      exact q O σ _ ((Stp.same s1).trans (Stp.own Op)) s'
    · exact q.elim
  · exact q.elim
end
end Tw

set_option maxHeartbeats 2000000
namespace Tw
open PySem PySem.Spec L2
open PyProof.Rows hiding St
def putVv (x : Str) (y : V) : List Str → List V → List V
  | k :: ks, v :: vs => if x = k then y :: vs else v :: putVv x y ks vs
  | _, _ => [y]
theorem putF_k {f : Str} {y : V} : ∀ {ks : List Str} {vs : List V}, ks.length = vs.length → L2.putF f y (fKeys ks vs) = fKeys (putDk f ks) (putVv f y ks vs)
  | [], vs, e => by cases vs <;> simp_all [fKeys, putDk, putVv, L2.putF]
  | k :: ks, [], e => by simp at e
  | k :: ks, v :: vs, e => by
    have ih := putF_k (f := f) (y := y) (ks := ks) (vs := vs) (by simpa using e)
    by_cases q : f = k
    · subst q; simp [fKeys, putDk, putVv, L2.putF]
    · have q' : ¬ k = f := fun z => q z.symm
      simp [fKeys, putDk, putVv, L2.putF, q, q', ih]
theorem putVv_len {f : Str} {y : V} : ∀ {ks : List Str} {vs : List V}, ks.length = vs.length → (putDk f ks).length = (putVv f y ks vs).length
  | [], vs, e => by cases vs <;> simp_all [putDk, putVv]
  | k :: ks, [], e => by simp at e
  | k :: ks, v :: vs, e => by
    have ih := putVv_len (f := f) (y := y) (ks := ks) (vs := vs) (by simpa using e)
    by_cases q : f = k
    · subst q; simp [putDk, putVv]; simpa using e
    · simp [putDk, putVv, q, ih]
theorem putDk_mem {f g : Str} : ∀ {ks : List Str}, g ∈ putDk f ks → g = f ∨ g ∈ ks
  | [], h => .inl (by simpa [putDk] using h)
  | k :: ks, h => by
    unfold putDk at h
    by_cases q : f = k
    · rw [if_pos q] at h; exact .inr h
    · rw [if_neg q] at h
      rcases List.mem_cons.mp h with e | h
      · exact .inr (by rw [e]; exact List.mem_cons_self)
      · rcases putDk_mem h with e | h
        · exact .inl e
        · exact .inr (List.mem_cons_of_mem _ h)
theorem repGL_put {G : Gc} {Z : Addr → Prop} {α : Nat → Addr} {ρ : DEnv} {H : Hp} {f : Str} {d : D} {y : V} (ry : RepG G Z α ρ H d y) : ∀ {ks : List Str} {l : List D} {vs : List V}, ks.length = vs.length → RepGL G Z α ρ H l vs → RepGL G Z α ρ H (putDv f d ks l) (putVv f y ks vs)
  | [], l, vs, e, r => by
    obtain rfl : vs = [] := by cases vs <;> simp_all
    unfold putDv putVv
    exact ⟨y, [], rfl, ry, rfl⟩
  | k :: ks, l, [], e, r => by simp at e
  | k :: ks, [], v :: vs, e, r => by cases (show v :: vs = [] from r)
  | k :: ks, d' :: l, v :: vs, e, r => by
    obtain ⟨v', w, e', r1, r2⟩ := r
    cases e'
    by_cases q : f = k
    · subst q
      simp only [putDv, putVv, if_pos]
      exact ⟨y, _, rfl, ry, r2⟩
    · simp only [putDv, putVv, if_neg q]
      exact ⟨v, _, rfl, r1, repGL_put ry (by simpa using e) r2⟩
theorem isOwn_setSlf {ρ : DEnv} {i j : Nat} {d d' : D} (hi : ρ[i]? = some (some (.slf d))) : isOwn (ρ.set i (some (.slf d'))) j ↔ isOwn ρ j := by
  have hl : i < ρ.length := (List.getElem?_eq_some_iff.mp hi).1
  refine ⟨fun h => ?_, fun h => ?_⟩
  · rcases isOwn_set h with ⟨e, _⟩ | ⟨_, k⟩
    · rw [e]; exact ⟨d, .inr (.inl hi)⟩
    · exact k
  · by_cases hj : j = i
    · subst hj
      exact ⟨d', .inr (.inl (List.getElem?_set_self hl))⟩
    · obtain ⟨d'', h⟩ := h
      refine ⟨d'', ?_⟩
      rw [List.getElem?_set_ne (Ne.symm hj)]
      exact h
/-- the object under construction is changed in its place -/
theorem SR.mutS {Y : Cy} {O : Addr → Prop} {ρ : DEnv} {σ : L2.St} {H : Hp} {i : Nat} {d d' : D} (s : SR Y O ρ σ H) (hi : ρ[i]? = some (some (.slf d))) {f : Str} {dv : D} {y : V} (ry : Rep Y.G (Zo Y.Ze O) H dv y) (hp : putF f dv d = some d') :
    ∃ c ks l dx vs, d = .obj c ks l ∧ d' = .obj c (putDk f ks) (putDv f dv ks l) ∧ f ∈ fldOf c ∧ Y.G.has c ∧ ks.length < 999 ∧ ks.length = vs.length ∧ σ[i]? = some (some (.ref Y.sa)) ∧ O Y.sa ∧ H Y.sa = some (.ins (Y.G.cm c) dx (fKeys ks vs)) ∧
      SR Y O (ρ.set i (some (.slf d'))) σ (upd H Y.sa (.ins (Y.G.cm c) dx (L2.putF f y (fKeys ks vs)))) := by
  obtain ⟨α, s⟩ := s
  have hl : i < ρ.length := (List.getElem?_eq_some_iff.mp hi).1
  obtain ⟨ei, ea, c, ks, l, dx, vs, rfl, hH, ⟨hlen, hc, hf⟩, rl⟩ := s.slf i d hi
  have oi : isOwn ρ i := ⟨_, .inr (.inl hi)⟩
  have Oi : O (α i) := (s.oeq _).mpr ⟨i, oi, rfl⟩
  unfold putF at hp
  simp only at hp
  split at hp
  rotate_left
  · cases hp
  rename_i hpk
  cases hp
  rw [ea] at ei Oi hH
  have sub : ∀ j, isOwn (ρ.set i (some (.slf (.obj c (putDk f ks) (putDv f dv ks l))))) j ↔ isOwn ρ j := fun j => isOwn_setSlf hi
  have sb : Sub (Zo Y.Ze O) H (upd H Y.sa (.ins (Y.G.cm c) dx (L2.putF f y (fKeys ks vs)))) := fun a u n e => by
    rw [upd_ne fun q => n (.inr (by rw [q]; exact Oi))]
    exact e
  have an : ∀ j, isOwn ρ j → j ≠ i → α j ≠ Y.sa := fun j h n e => n (s.inj j i h oi (e.trans ea.symm))
  have rw' : ∀ {d : D} {p : Addr}, p ≠ Y.sa → RepW Y.G (Zo Y.Ze O) H d (.ref p) → RepW Y.G (Zo Y.Ze O) (upd H Y.sa (.ins (Y.G.cm c) dx (L2.putF f y (fKeys ks vs)))) d (.ref p) := fun {d p} hp r => by
    cases d with
    | lst l => obtain ⟨a, vs, e, t, r⟩ := r; cases e; exact ⟨_, vs, rfl, by rw [upd_ne hp]; exact t, r.mono sb fun _ q => .inl q⟩
    | dct ks l => obtain ⟨a, vs, e, t, k, r⟩ := r; cases e; exact ⟨_, vs, rfl, by rw [upd_ne hp]; exact t, k, r.mono sb fun _ q => .inl q⟩
    | obj c ks l => obtain ⟨a, dx, vs, e, t, k, r⟩ := r; cases e; exact ⟨_, dx, vs, rfl, by rw [upd_ne hp]; exact t, k, r.mono sb fun _ q => .inl q⟩
    | _ => exact Rep.mono sb (fun _ q => .inl q) r
  have gl : ∀ {ds : List D} {vs' : List V}, RepGL Y.G (Zo Y.Ze O) α ρ H ds vs' → RepGL Y.G (Zo Y.Ze O) α (ρ.set i (some (.slf (.obj c (putDk f ks) (putDv f dv ks l))))) (upd H Y.sa (.ins (Y.G.cm c) dx (L2.putF f y (fKeys ks vs)))) ds vs' := by
    intro ds
    induction ds with
    | nil => intro vs h; exact h
    | cons d ds ih =>
      intro vs h
      obtain ⟨v, r, e, h1, h2⟩ := h
      refine ⟨v, r, e, ?_, ih h2⟩
      cases d with
      | gst j =>
        obtain ⟨e, d'', kk⟩ := h1
        have hki : j ≠ i := fun e => by subst e; rw [hi] at kk; cases kk
        exact ⟨e, d'', by rw [List.getElem?_set_ne (Ne.symm hki)]; exact kk⟩
      | _ => exact Rep.mono sb (fun _ q => .inl q) h1
  refine ⟨c, ks, l, dx, vs, rfl, rfl, hpk.2, hc, hpk.1, hlen, ei, Oi, hH, α, by rw [List.length_set]; exact s.len, fun j d'' e => ?_, fun j d'' e => ?_, fun j d'' e => ?_, fun j d'' e => ?_, fun j k hj hk e => s.inj j k ((sub j).mp hj) ((sub k).mp hk) e, fun a => ?_, fun a z q => ?_, fun a z q => ?_, ptrA s.ptr rfl fun _ _ r => r.mono sb fun _ q => .inl q⟩
  · rcases set_at e with ⟨_, q⟩ | ⟨_, q⟩
    · cases q
    · obtain ⟨v, e1, r⟩ := s.val j d'' q
      exact ⟨v, e1, r.mono sb fun _ q => .inl q⟩
  · rcases set_at e with ⟨_, q⟩ | ⟨hj, q⟩
    · cases q
    · obtain ⟨e1, n, r⟩ := s.own j d'' q
      exact ⟨e1, n, rw' (an j ⟨d'', .inl q⟩ hj) r⟩
  · rcases set_at e with ⟨rfl, q⟩ | ⟨hj, q⟩
    · cases q
      refine ⟨by rw [ei, ea], ea, c, _, _, dx, putVv f y ks vs, rfl, ?_, ⟨putVv_len hlen, hc, fun g hg => (putDk_mem hg).elim (fun e => by rw [e]; exact hpk.2) (hf g)⟩, repGL_put (RepG.of (ry.mono sb fun _ q => .inl q)) hlen (gl rl)⟩
      rw [ea, upd_same, putF_k hlen]
    · obtain ⟨e1, n, c, ks, l, dx, vs, e2, e3, e4, r⟩ := s.slf j d'' q
      exact absurd n (an j ⟨d'', .inr (.inl q)⟩ hj)
  · rcases set_at e with ⟨_, q⟩ | ⟨hj, q⟩
    · cases q
    · obtain ⟨r, k⟩ := s.gho j d'' q
      exact ⟨rw' (an j ⟨d'', .inr (.inr q)⟩ hj) r, k⟩
  · rw [s.oeq]
    exact ⟨fun ⟨j, k, e⟩ => ⟨j, (sub j).mpr k, e⟩, fun ⟨j, k, e⟩ => ⟨j, (sub j).mp k, e⟩⟩
  · by_cases h : a = Y.sa
    · subst h; rw [upd_same] at q; cases q
    · rw [upd_ne h] at q; exact s.zt a z q
  · by_cases h : a = Y.sa
    · subst h; rw [upd_same] at q; cases q
    · rw [upd_ne h] at q; exact s.ot a z q
theorem fKeys_len : ∀ {ks : List Str} {vs : List V}, ks.length = vs.length → (fKeys ks vs).length = ks.length
  | [], vs, e => by cases vs <;> simp_all [fKeys]
  | k :: ks, [], e => by simp at e
  | k :: ks, v :: vs, e => by simp [fKeys, fKeys_len (ks := ks) (vs := vs) (by simpa using e)]
section
variable {X : Cx} {Y : Cy} {a b e o tg : Expr} {fa fb : DE} {pos pos' p p2 : Pos} {x f : Str} {i : Nat}
/-- self.f = e -/
theorem ds_fld (hN : X.N[i]? = some x) (ha : PD X Y a fa) (hv : Vis X.env.scope x := by first | exact Or.inl rfl | exact Or.inr (Or.inl rfl) | exact Or.inr (Or.inr rfl)) (hd : (x == ("__debug__" : Str)) = false := by decide) (hcd : (x == ("__classdict__" : Str)) = false := by decide)
    (hs : swapsWith a (some (.Attribute (.Name x p) f pos')) pos.line X.env = pure false := by rfl) : PDS X Y (.Assign [.Attribute (.Name x p) f pos'] a pos) (sFld i f fa) := fun k => by
  refine impPS (ps_fld (pe_var hN hv hd hcd) (ha k) hs) fun N σ H ⟨O, ρ, s, q⟩ => ?_
  unfold sFld at q
  refine exp_then s q fun d ea q v H1 s1 r1 => ?_
  split at q
  · rename_i ds hi
    split at q
    · rename_i d' hp
      obtain ⟨c, ks, l, dx, vs, e1, e2, e3, e4, e5, e6, e7, e8, e9, s'⟩ := (s.same s1).mutS hi r1 hp
      refine ⟨_, e7, Y.sa, Y.G.cm c, dx, fKeys ks vs, rfl, e9, k.K ▸ Y.G.cls c e4, k.K ▸ Y.G.noat c f e4 e3, by rw [fKeys_len e6]; omega, ?_⟩
      exact q O σ _ ((Stp.same s1).trans (Stp.own e8)) s'
    · exact q.elim
  · exact q.elim
end
theorem envD_get {n : Nat} {ds : List D} {i : Nat} {x : Option Slot} (h : (envD n ds)[i]? = some x) : (∃ d, ds[i]? = some d ∧ x = some (.val d)) ∨ x = none := by
  unfold envD at h
  by_cases hi : i < ds.length
  · rw [List.getElem?_append_left (by simpa using hi), List.getElem?_map] at h
    obtain ⟨d, hd, e⟩ := Option.map_eq_some_iff.mp h
    exact .inl ⟨d, hd, e.symm⟩
  · rw [List.getElem?_append_right (by simpa using hi), List.getElem?_replicate] at h
    split at h
    · exact .inr (Option.some.inj h).symm
    · cases h
theorem envD_len {n : Nat} {ds : List D} (h : ds.length ≤ n) : (envD n ds).length = n := by
  unfold envD
  rw [List.length_append, List.length_map, List.length_replicate]
  omega
theorem start_get {N : List Str} {vs : List V} {i : Nat} {v : V} (h : vs[i]? = some v) : (start N vs)[i]? = some (some v) := by
  unfold L2.start
  rw [List.getElem?_append_left (by simpa using (List.getElem?_eq_some_iff.mp h).1), List.getElem?_map, h]
  rfl
theorem start_len {N : List Str} {vs : List V} (h : vs.length ≤ N.length) : (start N vs).length = N.length := by
  unfold L2.start
  rw [List.length_append, List.length_map, List.length_replicate]
  omega
theorem SR.start {Y : Cy} {N : List Str} {ds : List D} {vs : List V} {H : Hp} (hn : Y.n = N.length) (hl : ds.length ≤ N.length) (zt : ∀ a, Y.Ze a → H a ≠ none) (r : RepL Y.G Y.Ze H ds vs) : SR Y (fun _ => False) (envD N.length ds) (L2.start N vs) H := by
  have no : ∀ i, ¬ isOwn (envD N.length ds) i := fun i ⟨d, h⟩ => by
    rcases h with h | h | h
    all_goals
      rcases envD_get h with ⟨_, _, e⟩ | e
      · cases e
      · cases e
  have z : ∀ a, Zo Y.Ze (fun _ => False) a → Y.Ze a := fun a z => z.elim id False.elim
  refine ⟨fun _ => 0, ⟨by rw [start_len (by rw [← r.length]; exact hl), hn], by rw [envD_len hl, hn]; exact Nat.le_refl _⟩, fun i d e => ?_, fun i d e => absurd ⟨d, .inl e⟩ (no i), fun i d e => absurd ⟨d, .inr (.inl e)⟩ (no i), fun i d e => absurd ⟨d, .inr (.inr e)⟩ (no i), fun i j hi => absurd hi (no i), fun a => ⟨False.elim, fun ⟨i, h, _⟩ => no i h⟩, zt, fun a h => h.elim, PtrOk.no fun i x e hx => by
    rcases envD_get e with ⟨_, _, e⟩ | e
    · rcases hx with rfl | ⟨_, rfl⟩ <;> cases e
    · cases e⟩
  rcases envD_get e with ⟨d', hd, e⟩ | e
  · cases e
    obtain ⟨v, hv, rv⟩ := r.get hd
    exact ⟨v, start_get hv, rv.weak z⟩
  · cases e
theorem SR.startS {Y : Cy} {N : List Str} {s : D} {ds : List D} {vs : List V} {H : Hp} (hn : Y.n = N.length) (hl : ds.length + 1 ≤ N.length) (zt : ∀ a, Y.Ze a → H a ≠ none) (ob : ObjAt Y.G Y.Ze H Y.sa s) (hz : Y.Ze Y.sa) (r : RepL Y.G Y.Ze H ds vs) :
    SR Y (fun a => a = Y.sa) (some (.slf s) :: envD (N.length - 1) ds) (L2.start N (.ref Y.sa :: vs)) H := by
  have on : ∀ i, isOwn (some (.slf s) :: envD (N.length - 1) ds) i ↔ i = 0 := fun i => by
    refine ⟨fun ⟨d, h⟩ => ?_, fun e => by subst e; exact ⟨s, .inr (.inl rfl)⟩⟩
    cases i with
    | zero => rfl
    | succ i =>
      rcases h with h | h | h
      all_goals
        rcases envD_get (i := i) (by simpa using h) with ⟨_, _, e⟩ | e
        · cases e
        · cases e
  have z : ∀ a, Zo Y.Ze (fun a => a = Y.sa) a → Y.Ze a := fun a z => z.elim id fun e => by rw [e]; exact hz
  have gl : ∀ {ρ : DEnv} {l : List D} {vs : List V}, RepL Y.G Y.Ze H l vs → RepGL Y.G (Zo Y.Ze fun a => a = Y.sa) (fun _ => Y.sa) ρ H l vs := by
    intro ρ l
    induction l with
    | nil => intro vs h; exact h
    | cons d l ih =>
      intro vs h
      obtain ⟨v, w, e, h1, h2⟩ := h
      exact ⟨v, w, e, RepG.of (h1.weak z), ih h2⟩
  obtain ⟨c, ks, l, dx, us, e1, e2, e3, e4⟩ := ob
  refine ⟨fun _ => Y.sa, ⟨by rw [start_len (by rw [List.length_cons, ← r.length]; exact hl), hn], by rw [List.length_cons, envD_len (by omega), hn]; omega⟩, fun i d e => ?_, fun i d e => ?_, fun i d e => ?_, fun i d e => ?_, fun i j hi hj _ => ((on i).mp hi).trans ((on j).mp hj).symm, fun a => ⟨fun h => ⟨0, (on 0).mpr rfl, h.symm⟩, fun ⟨i, _, h⟩ => h.symm⟩, zt, fun a h => by rw [h]; exact zt _ hz, PtrOk.no fun i x e hx => by
    cases i with
    | zero => rcases hx with rfl | ⟨_, rfl⟩ <;> cases e
    | succ i =>
      rcases envD_get (i := i) (by simpa using e) with ⟨_, _, e⟩ | e
      · rcases hx with rfl | ⟨_, rfl⟩ <;> cases e
      · cases e⟩
  · cases i with
    | zero => cases e
    | succ i =>
      rcases envD_get (i := i) (by simpa using e) with ⟨d', hd, e⟩ | e
      · cases e
        obtain ⟨v, hv, rv⟩ := r.get hd
        exact ⟨v, start_get (by simpa using hv), rv.weak z⟩
      · cases e
  · exact absurd ((on i).mp ⟨d, .inl e⟩) (fun h => by subst h; cases e)
  · obtain rfl := (on i).mp ⟨d, .inr (.inl e)⟩
    cases e
    exact ⟨start_get rfl, rfl, c, ks, l, dx, us, e1, e2, e3, gl e4⟩
  · exact absurd ((on i).mp ⟨d, .inr (.inr e)⟩) (fun h => by subst h; cases e)
section
variable {P : Program} {w : World} {K : PySem.W.Frag} {mg : Str → Option Value} {base : Heap} {x qual : Str} {params : Arguments} {body : List Stmt} {scope : Scope} {dvs : List V} {kws : List (Str × V)} {f : Addr} {fd : FuncData} {N ps : List Str} {k : Nat} {G : Gc} {b : DS}
/-- the context of a def's body -/
def cyOf (G : Gc) (Ze : Addr → Prop) (sa : Addr) (E : XK) (k : Nat) (N : List Str) : Cy := ⟨G, Ze, sa, fun c d _ H => E c d H, k, N.length, true, fun _ => .non⟩
theorem lk_of {cdv : Value} {A : Around} {outer : List Env} {s : Shared} {H : Hp} {E : XK} {Ze : Addr → Prop} {sa : Addr} (hK : G.K = K) (S : FnScope N ps scope) (hr : Room k (A.deeper (envOfC qual scope s.heap.objs.size f cdv))) :
    Lk (cxOf (L2.CX P w) P w K mg base N qual scope f cdv A outer s H E) (cyOf G Ze sa E k N) where
  K := hK.symm
  ln := rfl
  tk := takes_of rfl rfl rfl rfl
  rm := Room.lo hr
  hd := fun _ => hr.hd
  nd := S.nd
  po := passes_of rfl
  calm := fun _ => rfl
theorem fn_dsp (F : FunD K x qual params body scope dvs kws f fd) (hK : G.K = K) (S : FnScope N ps scope) (hl : ps.length ≤ N.length)
    (hb : ∀ (cdv : Value) (A : Around) (outer : List Env) (s : Shared) (H : Hp) (E : XK) (Ze : Addr → Prop), PDSs (cxOf (L2.CX P w) P w K mg base N qual scope f cdv A outer s H E) (cyOf G Ze 0 E k N) body b) :
    FnOk P w K mg base (L2.CX P w) (k + 1) f fd ps (dsp G (defD N.length ps.length b)) := by
  have hlen : ∀ ds, (∀ (H : Hp) (Q : VK) (E : XK) (Ze : Addr → Prop), DPost G Ze H Q E (defD N.length ps.length b ds) → ds.length = ps.length) := fun ds H Q E Ze q => by
    unfold defD at q
    split at q
    · assumption
    · exact q.elim
  refine F.ok S (fun vs H Q E h => ?_) fun cdv A outer s H vs Q E hr h => ?_
  · obtain ⟨Ze, ds, _, r, q⟩ := h
    rw [← r.length]
    exact hlen ds H Q E Ze q
  · obtain ⟨Ze, ds, zt, r, q⟩ := h
    have hd := hlen ds H Q E Ze q
    refine ⟨_, hb cdv A outer s H E Ze (lk_of hK S hr), fun _ => False, envD N.length ds, SR.start (Y := cyOf G Ze 0 E k N) rfl (by rw [hd]; exact hl) zt r, ?_⟩
    unfold defD at q
    rw [if_pos hd] at q
    have sm : ∀ {O' : Addr → Prop} {H' : Hp}, Stp (fun _ => False) H O' H' → Same H H' := fun st a o e => st.1 a o (fun z => z) e
    have zw : ∀ {O' : Addr → Prop}, ∀ a, Ze a → Zo Ze O' a := fun a z => .inl z
    cases eb : b (envD N.length ds) with
    | no => rw [eb] at q; exact q.elim
    | ex e => rw [eb] at q; exact q.elim
    | ok o =>
      rw [eb] at q
      cases o with
      | nx ρ => exact fun O' σ' H' st s' => q .non H' (sm st) rfl
      | bk ρ => exact q.elim
      | ct ρ => exact q.elim
      | rt d ρ => exact fun O' σ' H' v st s' rv => q v H' (sm st) (Rep.weak zw rv)
      | xx e ρ => exact fun O' σ' H' c od st s' xr => q c od H' (sm st) (xr.weak zw)
theorem fn_init (F : FunD K x qual params body scope dvs kws f fd) (hK : G.K = K) (S : FnScope N ps scope) (hl : ps.length ≤ N.length)
    (hb : ∀ (cdv : Value) (A : Around) (outer : List Env) (s : Shared) (H : Hp) (E : XK) (Ze : Addr → Prop) (sa : Addr), PDSs (cxOf (L2.CX P w) P w K mg base N qual scope f cdv A outer s H E) (cyOf G Ze sa E k N) body b) :
    FnOk P w K mg base (L2.CX P w) (k + 1) f fd ps (dspM G (initP N.length ps.length b)) := by
  have hlen : ∀ s ds, (∀ (H : Hp) (Q : VK) (E : XK) (Ze : Addr → Prop) (a : Addr), IPost G Ze a H Q E (initP N.length ps.length b s ds) → ds.length + 1 = ps.length) := fun s ds H Q E Ze a q => by
    unfold initP at q
    split at q
    · assumption
    · exact q.elim
  refine F.ok S (fun vs H Q E h => ?_) fun cdv A outer s H vs Q E hr h => ?_
  · obtain ⟨Ze, a, s, us, ds, rfl, _, _, _, r, q⟩ := h
    rw [List.length_cons, ← r.length]
    exact hlen s ds H Q E Ze a q
  · obtain ⟨Ze, a, so, us, ds, rfl, hz, zt, ob, r, q⟩ := h
    have hd := hlen so ds H Q E Ze a q
    refine ⟨_, hb cdv A outer s H E Ze a (lk_of hK S hr), fun b => b = a, some (.slf so) :: envD (N.length - 1) ds, SR.startS (Y := cyOf G Ze a E k N) rfl (by rw [hd]; exact hl) zt ob hz r, ?_⟩
    unfold initP at q
    rw [if_pos hd] at q
    have sm : ∀ {O' : Addr → Prop} {H' : Hp}, Stp (fun b => b = a) H O' H' → ∀ b o, b ≠ a → H b = some o → H' b = some o := fun st b o n e => st.1 b o n e
    have zw : ∀ {O' : Addr → Prop}, ∀ a, Ze a → Zo Ze O' a := fun a z => .inl z
    have fin : ∀ {O' : Addr → Prop} {σ' : L2.St} {H' : Hp} {d : D} {ρ : DEnv} {v : V}, IPost G Ze a H Q E (slfP ρ d) → Stp (fun b => b = a) H O' H' → SR (cyOf G Ze a E k N) O' ρ σ' H' → Rep G Ze H' d v → Q v H' := by
      intro O' σ' H' d ρ v q st s' rv
      unfold slfP at q
      split at q
      · rename_i c ks l tl
        split at q
        · rename_i hg
          obtain ⟨α, s'⟩ := s'
          obtain ⟨e1, e2, c', ks', l', dx, vs, e3, e4, e5, e6⟩ := s'.slf 0 (.obj c ks l) rfl
          cases e3
          rw [e2] at e4
          exact q v H' (sm st) ⟨c, ks, l, dx, vs, rfl, e4, e5, (e6.plain hg).weak zw⟩ rv
        · exact q.elim
      · exact q.elim
    cases eb : b (some (.slf so) :: envD (N.length - 1) ds) with
    | no => rw [eb] at q; exact q.elim
    | ex e => rw [eb] at q; exact q.elim
    | ok o =>
      rw [eb] at q
      cases o with
      | nx ρ => exact fun O' σ' H' st s' => fin q st s' rfl
      | bk ρ => exact q.elim
      | ct ρ => exact q.elim
      | rt d ρ => exact fun O' σ' H' v st s' rv => fin q st s' (Rep.weak zw rv)
      | xx e ρ => exact fun O' σ' H' c od st s' xr => q c od H' (sm st) (s'.zt a (.inl hz)) (xr.weak zw)
end
mutual
theorem Rep.nolst {G : Gc} {Z Z' : Addr → Prop} {H : Hp} (z : ∀ a, Z' a → Z a ∨ ∃ vs, H a = some (.lst vs)) : ∀ {d : D} {v : V}, noL d = true → Rep G Z H d v → Rep G Z' H d v
  | .non, v, _, h => h
  | .bl b, v, _, h => h
  | .int i, v, _, h => h
  | .str x, v, _, h => h
  | .cls n, v, _, h => h
  | .gst j, v, n, h => by cases n
  | .scr ns, v, n, h => by cases n
  | .lst l, v, n, h => by cases n
  | .dct ks l, v, n, h => by cases n
  | .tup l, v, n, h => by
    obtain ⟨a, vs, e, t, r⟩ := h
    refine ⟨a, vs, e, ?_, RepL.nolst z (by simpa [noL] using n) r⟩
    rcases t with ⟨nz, t⟩ | t
    · exact .inl ⟨fun q => (z a q).elim nz fun ⟨us, e⟩ => (by rw [t] at e; cases e), t⟩
    · exact .inr t
  | .obj c ks l, v, n, h => by
    obtain ⟨a, dx, vs, e, nz, t, k, r⟩ := h
    exact ⟨a, dx, vs, e, fun q => (z a q).elim nz fun ⟨us, e⟩ => (by rw [t] at e; cases e), t, k, RepL.nolst z (by simpa [noL] using n) r⟩
theorem RepL.nolst {G : Gc} {Z Z' : Addr → Prop} {H : Hp} (z : ∀ a, Z' a → Z a ∨ ∃ vs, H a = some (.lst vs)) : ∀ {ds : List D} {vs : List V}, noLs ds = true → RepL G Z H ds vs → RepL G Z' H ds vs
  | [], vs, _, h => h
  | d :: ds, vs, n, h => by
    obtain ⟨v, r, e, h1, h2⟩ := h
    obtain ⟨n1, n2⟩ := Bool.and_eq_true_iff.mp (by simpa [noLs] using n)
    exact ⟨v, r, e, Rep.nolst z n1 h1, RepL.nolst z n2 h2⟩
end
end Tw

set_option maxHeartbeats 2000000
namespace Tw
open PySem PySem.Spec L2
open PyProof.Rows hiding St
section
variable {fb : List FrB} {fa : List He.Fa} {fn : List He5.DefA} {K : PySem.W.Frag}
theorem SaysT.fact (c : SaysT fb fa fn K) (i : Nat) {f : He.Fa} (h : fa[i]? = some f := by rfl) : f.ok K = true := List.all_eq_true.mp c.all3.2.1 f (List.mem_of_getElem? h)
theorem SaysT.def_ (c : SaysT fb fa fn K) (i : Nat) {d : He5.DefA} (h : fn[i]? = some d := by rfl) : ∃ fd, L2.FunD K d.name d.qual d.params d.body d.scope (d.dvs K) (d.kws K) (d.at_ K) fd := by
  have z : fn.map (fun d => He5.fnA K (d.at_ K)) = fn.map He5.DefA.val := congrArg Prod.snd c
  have z1 : (fn.map fun d => He5.fnA K (d.at_ K))[i]? = (fn.map He5.DefA.val)[i]? := by rw [z]
  rw [List.getElem?_map, List.getElem?_map, h] at z1
  exact He5.DefA.funD (Option.some.inj z1) (List.all_eq_true.mp c.all3.2.2 d (List.mem_of_getElem? h))
end
theorem smB_ok {K : PySem.W.Frag} {c m : Str} (h : smB c m K = true) : CFn K (He.ga K c) m (sAd c m K) := by
  obtain ⟨h1, h⟩ := Bool.and_eq_true_iff.mp h
  obtain ⟨h2, h⟩ := Bool.and_eq_true_iff.mp h
  obtain ⟨h3, h4⟩ := Bool.and_eq_true_iff.mp h
  obtain ⟨w1, r, w2⟩ := He5.wrapB_ok h3
  exact ⟨of_decide_eq_true h1, of_decide_eq_true h2, .inr ⟨_, r, w1, w2⟩, h4⟩
theorem pmB_ok {K : PySem.W.Frag} {c m : Str} (h : pmB c m K = true) : CFn K (He.ga K c) m (mAd c m K) := by
  obtain ⟨h1, h⟩ := Bool.and_eq_true_iff.mp h
  obtain ⟨h2, h⟩ := Bool.and_eq_true_iff.mp h
  obtain ⟨h3, h4⟩ := Bool.and_eq_true_iff.mp h
  refine ⟨of_decide_eq_true h1, of_decide_eq_true h2, .inl ?_, h4⟩
  split at h3
  · rename_i a e
    rw [e, of_decide_eq_true h3]
  · cases h3
section
variable {X : Cx} {Y : Cy} {pos : Pos} {x : Str}
theorem pd_gstr {z : Str} (hg : Gl X x) (hm : ∃ t, X.mg x = some (.str z t)) (hd : (x == ("__debug__" : Str)) = false := by decide) : PD X Y (.Name x pos) (eC (.str z)) := by
  obtain ⟨t, hm⟩ := hm
  exact pd_glob (v := .str z) hg hm ⟨t, rfl⟩ (fun _ _ => rfl) hd
theorem pd_gint {z : Int} (hg : Gl X x) (hm : ∃ t, X.mg x = some (.int z t)) (hd : (x == ("__debug__" : Str)) = false := by decide) : PD X Y (.Name x pos) (eC (.int z)) := by
  obtain ⟨t, hm⟩ := hm
  exact pd_glob (v := .int z) hg hm ⟨t, rfl⟩ (fun _ _ => rfl) hd
end
theorem FnOk.anyW {P : Program} {w : World} {K : PySem.W.Frag} {mg : Str → Option Value} {base : Heap} {k : Nat} {f : Addr} {fd : FuncData} {ps : List Str} {sp : Sp} (F : FnOk P w K mg base (L2.CX P w) k f fd ps sp) : FnOk P w K mg base (CXw P) k f fd ps sp :=
  ⟨F.len, fun A outer s H args us vs Q E hr e0 hb hv hs => codeAny_mono (F.run A outer s H args us vs Q E hr e0 hb hv hs) fun r s' q => by
    cases r with
    | ok fl => cases fl <;> exact q
    | error e => exact ⟨w, q⟩⟩
end Tw

set_option maxHeartbeats 2000000
namespace Tw
open PySem PySem.Spec L2
open PyProof.Rows hiding St
/-- what K holds of the __init__ at f of the exception class at D -/
structure XcF (P : Program) (K : PySem.W.Frag) (D f : Addr) (fd : FuncData) (cda cc : Addr) : Prop where
  fn : ∃ oc od osl, K.lookup f = some ⟨oc, od, .func fd, osl⟩
  self : ∃ ar, (fd.params.posonlyargs ++ fd.params.args).head? = some ar ∧ ar.arg = "self"
  code : ∃ c1 c2 vs c3 file tf, K.lookup cda = some ⟨c1, c2, .fields vs, c3⟩ ∧ vs[2]? = some (.str file tf) ∧ ((P.main.file : Str) == file) = true
  cell : ∃ c1 c2 c3, K.lookup cc = some ⟨c1, c2, .cell (some (.ref D)), c3⟩
  cls : ∃ cd, PySem.W.clsIn K D = some cd
  sub : PySem.W.mroIn K D (.ref D) = some true
  stat : PySem.W.nsIn K cStatics "thirdparty.any" = some none
  sup : PySem.W.ks_superIn K D D "__init__" = some (some (.builtin "ValueError.__init__"))
  ve : PySem.W.subIn K (.ref D) (.type "ValueError") = some true
  top : (P.main.scope.names.lookup ("super" : Str)).isSome = false
section
open PySem.ESX PySem.HandSPX
variable {prog : Program} {w : World} {A : Around} {E : Value → Shared → Prop} {hp : Heap} {g : Array GenState} {d : Drawn} {t : Nat} {os : OsState}
variable {nm q : Str} {C N : Addr} {bs bm : List Value} {hdct : Bool} {sn : List Str} {sub : List Value} {ab : Bool} {col : Option Bool} {dd : Option Addr} {k0 k1 k2 k3 k5 : Option Value}
/-- the bound ValueError.__init__ is called -/
theorem call_mw {u x t0 : Addr} {us : List Value} {Q : Value → Shared → Prop}
    (hC : hp.get? C = some (excClassObj nm q C N bs bm hdct sn sub ab col dd k0 k1 k2 k3 k5 "ValueError.__new__")) (hx : hp.get? x = some (HandSPX.excO C t0)) (hu : hp.get? u = some (PySem.W.kxs_mw "ValueError.__init__" x)) (hl : us.length ≤ sizeLine)
    (hq : ∀ h2 t1, (∀ b o, b ≠ x → hp.get? b = some o → h2.get? b = some o) → h2.get? x = some (HandSPX.excO C t1) → Q .none ⟨h2, g, d, t, os⟩) :
    wpAny (model prog w) A (call (.ref u) us) Q E ⟨hp, g, d, t, os⟩ := by
  have mw : (Value.type "method-wrapper" == Value.type "method" || Value.type "method-wrapper" == Value.type "builtin_function_or_method" || Value.type "method-wrapper" == Value.type "method-wrapper") = true := by decide
  refine wpAny_call (codeAny_of_tree ?_)
  show wpAny (model prog w) A.in1 (callAny (.ref u) ⟨us, []⟩) _ _ _
  simp only [callAny]
  refine wpAny_bind (wpAny_load hu ?_)
  simp only [PySem.W.kxs_mw, mw, if_true]
  refine PySem.W.KFB.if_so (by decide) ?_
  refine wpAny_bind (check_bound F.excBase_ValueError hC hx rfl (wpAny_bind (wpAny_pure (wpAny_pure ?_))))
  refine ⟨Code.quiet_builtin _ (by decide +kernel), codeAny_builtin F.excBase_ValueError.initEntry ?_⟩
  rw [Around.under_plainId F.excBase_ValueError.init.plain _]
  wp_walk
  refine hq _ hp.objs.size (fun b o hb ho => (Heap.get?_update_other _ _ (Ne.symm hb)).trans (Heap.get?_push_of_some _ ho)) ?_
  exact (Heap.get?_update_self _ (Heap.get?_push_of_some _ hx) rfl).trans rfl
end
section
variable {X : Cx} {D f cda cc a : Addr} {fd : FuncData} {σ : L2.St} {H : Hp} {s : Shared} {body : List Stmt} {E : Value → Shared → Prop} {p0 p1 p2 apos pos : Pos} {m : Str} {j : Nat}
/-- the text's call super().__init__(m) is a method's call like others (its lines are one) -/
def HeX (p0 p1 p2 apos pos : Pos) (m : Str) (j : Nat) (env : Env) : Prop :=
  eval (.Call (.Attribute (.Call (.Name "super" p0) [] [] p1) "__init__" apos) [.Constant (.str m) j p2] [] pos) env = (do
    let ov ← attributeBase (.Call (.Name "super" p0) [] [] p1) "__init__" env (eval (.Call (.Name "super" p0) [] [] p1) env)
    standAt apos.atName
    let (g, fs) ← holding [ov] (getMethod ov "__init__" (do return (← importBound (.Call (.Name "super" p0) [] [] p1) env).getD true))
    callWith pos g fs (backTo pos (starEach [.Constant (.str m) j p2] env)) [])
theorem super_init (F : XcF X.prog X.K D f fd cda cc) (T : OexC X.K D) (I : Inv X [] σ H s) (hgs : X.mg "super" = none) (hks : X.env.kindOf "super" = some .globalImplicit) (hkc : X.env.kindOf "__class__" = some .free) (hkl : X.env.kindOf "self" = some .local)
    (hfu : X.env.func = some f) (hcd : X.env.code = .ref cda) (hcl : X.env.cells.lookup ("__class__" : Str) = some cc) {i : Nat} (hN : X.N[i]? = some ("self" : Str)) (hσ : σ[i]? = some (some (.ref a))) (ha : H a = some (exo a D none))
    (he : HeX p0 p1 p2 apos pos m j X.env)
    (hst : starEach (.Constant (.str m) j p2 :: []) X.env = (false, eval (.Constant (.str m) j p2) X.env) :: starEach [] X.env) {Q : Value → Shared → Prop} (h : ∀ s', Inv X [] σ H s' → Q .none s') :
    _root_.PySem.wpAt (model X.prog X.w) X.A (.func body X.env) (eval (.Call (.Attribute (.Call (.Name "super" p0) [] [] p1) "__init__" apos) [.Constant (.str m) j p2] [] pos) X.env) Q X.xe s := by
  obtain ⟨oc, od, osl, hf⟩ := F.fn
  obtain ⟨ar, har, earg⟩ := F.self
  obtain ⟨c1, c2, vs, c3, file, tf, hco, hvs, hfile⟩ := F.code
  obtain ⟨d1, d2, d3, hcell⟩ := F.cell
  obtain ⟨cd, hcls⟩ := F.cls
  have KI := I.kIn
  obtain ⟨mb, h1, h2⟩ := I.mod.blt
  obtain ⟨mL, hn, hlook⟩ := I.loc
  obtain ⟨t1, hex⟩ := exo_at I.hok ha
  obtain ⟨u, ru, hu⟩ := hlook i "self" (.ref a) hN hσ (Or.inl hkl)
  obtain rfl : u = Value.ref a := ru
  have hself : mL "self" = some (.ref a) := by
    rcases hu with ⟨_, e⟩ | ⟨k, _⟩
    · exact e
    · rw [hkl] at k
      rcases k with k | k <;> cases k
  refine PySem.ks_wpAt_MethodCall ?_ he
  refine PySem.ks_wpAt_super_base hks hkc (by decide) hfu (KI _ _ hf) rfl har hcd (KI _ _ hco) rfl hvs hfile F.top ?_
  refine PySem.W.ks_loadName_global I.ok.kind hks (Calls.loadGlobal_builtin (by rw [I.ok.glob]; exact I.mod.glob.keeps I.bk) hgs (by rw [I.ok.blt]; exact h1.keeps I.bk) ((h2 _ (by decide)).trans PyProof.Rows.Boot.«super») ⟨rfl, ?_⟩)
  refine wpAny_loadName_free I.ok.kind hkc hcl ⟨_, KI _ _ hcell, rfl⟩ ?_
  rw [earg]
  refine wpAny_loadName_local I.ok.kind hkl hn hself ?_
  obtain ⟨oD, hD1, hD2⟩ : ∃ oD, s.heap.get? D = some oD ∧ oD.data = .cls cd := by
    unfold PySem.W.clsIn at hcls
    split at hcls
    · rename_i q1 q2 cd' q4 ho
      cases hcls
      exact ⟨_, KI _ _ ho, rfl⟩
    · cases hcls
  have sup := F.sup
  unfold PySem.W.ks_superIn at sup
  rw [hcls] at sup
  refine PySem.ks_wpAny_isType_cls hD1 hD2 ⟨rfl, ?_⟩
  refine PySem.ks_wpAny_call_super hD1 hD2 hex rfl (fun c z => by cases z) (PySem.W.looks_mroIn KI F.sub) (fun h1 e1 k1 => ?_)
  have I1 : Inv X [] σ H { s with heap := h1 } := I.kept k1
  have J : PySem.W.InstAt h1 a (PySem.HandSPX.excO D t1) D none := ⟨k1 _ _ hex, rfl, rfl, trivial⟩
  have hI : PySem.W.Looks (model X.prog X.w) h1 (isInstance (.ref a) (.type "ValueError")) true := J.type.andThen (PySem.W.looks_subIn I1.kIn F.ve)
  have hne := PySem.W.ks_ne I1.kIn J hcls
  have hM : PySem.W.Looks (model X.prog X.w) h1 (mroOf (.ref D)) cd.mro := fun A Q E s k q => wpAny_bind ((PySem.W.looks_clsIn I1.kIn hcls) A _ E s k (wpAny_pure q))
  refine PySem.W.kxs_getMethod PySem.W.kxs_ValueError e1 (PySem.W.looks_opaque I1.kIn F.stat) hM rfl I1.kIn sup hI hne (by decide) ?_
  have k2 : ∀ b o, h1.get? b = some o → (h1.push (PySem.W.kxs_mw "ValueError.__init__" a)).get? b = some o := fun b o z => Heap.get?_push_of_some _ z
  have I2 : Inv X [] σ H { s with heap := h1.push (PySem.W.kxs_mw "ValueError.__init__" a), toks := s.toks + 1 } := I1.kept k2
  have hu2 : (h1.push (PySem.W.kxs_mw "ValueError.__init__" a)).get? h1.objs.size = some (PySem.W.kxs_mw "ValueError.__init__" a) := Heap.get?_push_at rfl rfl
  refine PySem.W.kxs_callWith (i := "ValueError.__init__") (x := a) (by rw [hst]; rfl) ?_
  rw [hst]
  refine PySem.Calls.evalArgs_plain ?_
  have Ip : Inv X [(h1.objs.size, PySem.W.kxs_mw "ValueError.__init__" a)] σ H { s with heap := h1.push (PySem.W.kxs_mw "ValueError.__init__" a), toks := s.toks + 1 } := I2.pins_of fun p hp => by
    rw [List.mem_singleton] at hp
    subst hp
    exact ⟨hu2, I1.hok.fresh (Nat.le_refl _), Nat.ne_of_gt I1.lt, I1.nofs (Nat.le_refl _), fun v z => by cases z⟩
  have R := (pa_cons (X := X) (pe_str (x := m) (j := j) (pos := p2)) pa_nil hst).run pos _ _ σ H (fun vs H' => vs = [V.str m] ∧ H' = H) Ip ⟨rfl, rfl⟩
  rw [hst] at R
  refine thn R fun us s3 hh => ?_
  obtain ⟨vs', H', I3, rv, rfl, rfl⟩ := hh
  have hu3 := (I3.pin (h1.objs.size, PySem.W.kxs_mw "ValueError.__init__" a) (List.mem_append_right _ List.mem_cons_self)).1
  have I4 : Inv X [] σ H' s3 := I3.pins_of fun p hp => by cases hp
  obtain ⟨t3, hex3⟩ := exo_at I4.hok ha
  obtain ⟨nm, q, N, bs, bm, sn, sub, ab, col, dd, k0, k1', k2', k3, k5, hC, hbm⟩ := T.cls
  refine ⟨hu3, ?_⟩
  have hus : us.length ≤ sizeLine := by
    rw [← rv.length, sizeLine_eq]
    exact Nat.le_of_ble_eq_true rfl
  have KI4 := I4.kIn
  obtain ⟨hp3, g3, d3', tk3, os3⟩ := s3
  refine call_mw (KI4 _ _ hC) hex3 hu3 hus fun h2' t4 kk hx2 => ?_
  have W2 := I4.write (t' := tk3) (x := a) (e := a) (o := exo a D none) (by rw [ha]; exact True.intro) (.inl rfl) kk ⟨_, hx2⟩ (exo_ok hx2)
  have same : upd H' a (exo a D none) = H' := funext fun b => by
    by_cases hb : b = a
    · rw [hb, upd_same, ha]
    · exact upd_ne hb
  rw [same] at W2
  exact h _ W2
end
end Tw

set_option maxHeartbeats 2000000
namespace Tw
open PySem PySem.Spec L2
open PyProof.Rows hiding St
/-- the context of an exception's __init__ -/
def cxX (P : Program) (w : World) (K : PySem.W.Frag) (mg : Str → Option Value) (base : Heap) (N : List Str) (qual : Str) (scope : Scope) (f cda cc : Addr) (A : Around) (outer : List Env) (s : Shared) (H : Hp) (E : XK) : Cx :=
  let env := PySem.W.envX qual scope s.heap.objs.size f (.ref cda) [("__class__", cc)]
  { prog := P, w := w, K := K, mg := mg, base := base, A := A.deeper env, N := N, s_0 := s, H_0 := H, env := env, outer := outer, stack := env :: outer, ex := [], calm := true, fn := fun y => !(y == ("__class__" : Str)), pn := [],
    xe := fun e s1 => wpAny (model P w) (A.deeper env) (leaving env e) (fun _ s2 => L2.CX P w outer H s E e s2) (fun e2 s2 => L2.CX P w outer H s E e2 s2) s1 }
structure XScope (N ps : List Str) (sc : Scope) : Prop where
  kind : sc.kind = .function
  co : sc.isCoroutine = false
  gen : sc.isGenerator = false
  nd : N.Nodup
  pre : N.take ps.length = ps
  par : ∀ x ∈ ps, sc.names.lookup x = some .local
  nocell : ∀ y ∈ sc.names, y.2 ≠ .cell
  free : ∀ y ∈ sc.names, y.2 = .free → y.1 = "__class__"
  sup : sc.names.lookup ("super" : Str) = some .globalImplicit
  dcl : sc.names.lookup ("__class__" : Str) = some .free
theorem rev_zip {x : Str} {u : Value} : ∀ {ps : List Str} {us : List Value} {i : Nat}, ps.Nodup → ps[i]? = some x → us[i]? = some u → (ps.zip us).reverse.lookup x = some u
  | [], _, _, _, h, _ => by simp at h
  | _ :: _, [], _, _, _, h => by simp at h
  | p :: ps, v :: us, 0, nd, h1, h2 => by
    simp at h1 h2
    subst h1 h2
    have hn : ((ps.zip us).reverse).lookup p = none := by
      rw [List.lookup_eq_none_iff]
      intro q hq
      rw [List.mem_reverse] at hq
      have : q.1 ∈ ps := (List.of_mem_zip (show (q.1, q.2) ∈ ps.zip us from hq)).1
      have ne : p ≠ q.1 := fun z => (List.nodup_cons.mp nd).1 (z ▸ this)
      simpa using ne
    rw [List.zip_cons_cons, List.reverse_cons, List.lookup_append, hn]
    simp
  | p :: ps, v :: us, i + 1, nd, h1, h2 => by
    rw [List.zip_cons_cons, List.reverse_cons, List.lookup_append, rev_zip (List.nodup_cons.mp nd).2 (by simpa using h1) (by simpa using h2)]
    rfl
section
variable {P : Program} {w : World} {K : PySem.W.Frag} {mg : Str → Option Value} {base hp0 : Heap} {N ps : List Str} {qual name : Str} {scope : Scope} {f cda cc D : Addr} {A : Around} {outer : List Env} {s : Shared} {H : Hp} {E : XK} {us : List Value} {vs : List V}
theorem inv_startX (KC : ∃ o v, K.lookup cc = some o ∧ o.data = .cell v) (S : XScope N ps scope) (hd : A.handled = none) (e0 : Env0 P w K mg base A outer s H) (hl : vs.length = ps.length) (r : Vals vs us) (tk : Nat)
    (hns : hp0.Ns s.heap.objs.size (fun x => (ps.zip us).reverse.lookup x)) (hk : ∀ b o, s.heap.get? b = some o → hp0.get? b = some o) :
    Inv (cxX P w K mg base N qual scope f cda cc A outer s H E) [] (L2.start N vs) H { s with heap := hp0, toks := tk } := by
  have hpl : ps.length ≤ N.length := by have := congrArg List.length S.pre; rw [List.length_take] at this; omega
  obtain ⟨oc, v0, lcc, dcc⟩ := KC
  have bcc := e0.mod.kin _ _ lcc
  have Hcc := (e0.bs _ _ bcc).2
  have scc := (e0.bs _ _ bcc).1
  have one : ∀ {y : Str} {c : Addr}, ([("__class__", cc)] : List (Str × Addr)).lookup y = some c → y = "__class__" ∧ c = cc := fun {y c} z => by
    rw [List.lookup_cons] at z
    split at z
    · rename_i q
      exact ⟨eq_of_beq q, (Option.some.inj z).symm⟩
    · cases z
  have noA : ∀ b : Addr, b ∉ (cxX P w K mg base N qual scope f cda cc A outer s H E).ex := fun b z => absurd (show b ∈ ([] : List Addr) from z) (by simp)
  refine ⟨⟨e0.mod, S.kind, rfl, rfl, Nat.le_refl _, fun y z c h1 h2 => ?_, fun y hy => ?_, fun y c hf hc => ?_, fun _ => hd, Around.frames_deeper e0.frames, .inr ⟨rfl, rfl⟩, fun b z => absurd z (noA b), e0.bs, e0.bsz, fun b _ _ => noA b, fun b z => absurd z (noA b), e0.funs, e0.frf⟩,
    rfl, e0.bare, Un.kept hk, ⟨_, hns, fun i y v h1 h2 h3 => ?_⟩, fun y c hc => ?_, e0.hok.fresh (Nat.le_refl _), fun y c hc => ?_, fun p hp => absurd (show p ∈ ([] : List (Addr × Obj)) from hp) (by simp), e0.hok.kept hk, ?_⟩
  · rw [(one h1).1, (one h2).1]
  · have hy : scope.names.lookup y = some .cell ∨ scope.names.lookup y = some .free := hy
    rcases hy with hy | hy
    · exact absurd rfl (S.nocell _ (PySem.mem_of_lookup hy))
    · have := S.free _ (PySem.mem_of_lookup hy) rfl
      have this : y = "__class__" := this
      subst this
      refine ⟨cc, ?_⟩
      show List.lookup ("__class__" : Str) [(("__class__" : Str), cc)] = some cc
      exact List.lookup_cons_self
  · have hc' := (one hc).1
    subst hc'
    have hf : (!(("__class__" : Str) == ("__class__" : Str))) = true := hf
    rw [beq_self_eq_true] at hf
    cases hf
  · have hi : i < vs.length := by
      unfold L2.start at h2
      by_cases hi : i < vs.length
      · exact hi
      · rw [List.getElem?_append_right (by simpa using hi), List.getElem?_replicate] at h2
        split at h2 <;> cases h2
    have ha : vs[i]? = some v := by
      unfold L2.start at h2
      rw [List.getElem?_append_left (by simpa using hi), List.getElem?_map] at h2
      cases e : vs[i]? with
      | none => rw [e] at h2; cases h2
      | some a => rw [e] at h2; cases h2; rfl
    obtain ⟨u, hu, rv⟩ := r.get ha
    have hp : ps[i]? = some y := by
      rw [← S.pre, List.getElem?_take_of_lt (by omega)]; exact h1
    have ndP : ps.Nodup := by rw [← S.pre]; exact S.nd.sublist (List.take_sublist _ _)
    exact ⟨u, rv, .inl ⟨S.par y (List.mem_of_getElem? hp), rev_zip ndP hp hu⟩⟩
  · obtain ⟨rfl, rfl⟩ := one hc
    exact ⟨v0, _, hk _ _ scc, dcc⟩
  · obtain ⟨rfl, rfl⟩ := one hc
    exact Hcc
  · unfold L2.start
    show _ = N.length
    rw [List.length_append, List.length_map, List.length_replicate]
    omega
theorem fn_exc {params : Arguments} {dV kV doc pm ct : Value} {an : Option Addr} {rest : List Stmt} {p0 p1 p2 apos pos pos' : Pos} {m : Str} {j k : Nat} {sp : Sp} {oc : Value} {od : Option Addr} {osl : Array (Option Value)} {fd : FuncData}
    (hfd : fd = PySem.W.fnX name qual params (.Expr (.Call (.Attribute (.Call (.Name "super" p0) [] [] p1) "__init__" apos) [.Constant (.str m) j p2] [] pos) pos' :: rest) scope [("__class__", cc)] dV kV doc pm an (.ref cda) ct)
    (lk : K.lookup f = some ⟨oc, od, .func fd, osl⟩) (hcd : PySem.W.codeIn K (.ref cda) qual = true) (F : XcF P K D f fd cda cc) (T : OexC K D) (S : XScope N ps scope) (hgs : mg "super" = none) (hp0 : ps[0]? = some ("self" : Str))
    (len : ∀ vs H Q E, sp vs H Q E → vs.length = ps.length) (hat : ∀ vs H Q E, sp vs H Q E → ∃ a us, vs = .ref a :: us ∧ H a = some (exo a D none))
    (hrest : ∀ (A : Around) (outer : List Env) (s : Shared) (H : Hp) (vs : List V) (Q : VK) (E : XK), sp vs H Q E → ∃ t, PSs (cxX P w K mg base N qual scope f cda cc A outer s H E) rest t ∧ t { nx := fun _ H' => Q .non H', rt := Q } (L2.start N vs) H)
    (he : ∀ (A : Around) (outer : List Env) (s : Shared) (H : Hp) (E : XK), HeX p0 p1 p2 apos pos m j (cxX P w K mg base N qual scope f cda cc A outer s H E).env) :
    FnOk P w K mg base (L2.CX P w) (k + 1) f fd ps sp := by
  refine ⟨len, fun A outer s H args us vs Q E hr e0 hb r hsp => ?_⟩
  have hl := len _ _ _ _ hsp
  have KX : K.In s.heap := e0.mod.kin.keeps fun b o e => (e0.bs b o e).1
  have lim : s.heap.NoLimit := e0.mod.nolimit.keeps fun b o e => (e0.bs b o e).1
  obtain ⟨a, us', rfl, ha⟩ := hat _ _ _ _ hsp
  obtain ⟨cl1, cl2, cl3, hcell⟩ := F.cell
  obtain ⟨t, ht, hq⟩ := hrest A outer s H _ Q E hsp
  have F' := F
  subst hfd
  refine PySem.ks_codeAny_call_defAt (binds := ps.zip us) hr.depth (KX _ _ lk) rfl lim (PySem.W.codeRec_of KX hcd) rfl hb S.nocell (fun y hy => S.par y.1 (List.of_mem_zip (show (y.1, y.2) ∈ ps.zip us from hy)).1) (fun h0 hns hk => ?_) S.co S.gen S.kind
  have I := inv_startX (qual := qual) (f := f) (cda := cda) (cc := cc) (E := E) (N := N) (hp0 := h0) ⟨_, _, hcell, rfl⟩ S hr.hd e0 hl r (s.toks + (ps.zip us).length) hns hk
  have hi : (L2.start N (V.ref a :: us'))[0]? = some (some (.ref a)) := start_get rfl
  have hN : N[0]? = some ("self" : Str) := by
    have := S.pre
    rw [← this, List.getElem?_take] at hp0
    split at hp0
    · exact hp0
    · cases hp0
  have hs : scope.names.lookup ("self" : Str) = some .local := S.par _ (List.mem_of_getElem? hp0)
  refine PySem.ks_wpAt_execs_cons (PySem.ks_wpAt_Expr_any ?_ (hi := by
    have hkk : (cxX P w K mg base N qual scope f cda cc A outer s H E).env.scope.kind = .function := S.kind
    show interactive (cxX P w K mg base N qual scope f cda cc A outer s H E).env = false
    unfold interactive
    rw [hkk]
    rfl))
  refine super_init (X := cxX P w K mg base N qual scope f cda cc A outer s H E) F' T I hgs S.sup S.dcl hs rfl rfl (List.lookup_cons_self) hN hi ha (he A outer s H E) rfl fun s2 I2 => ?_
  refine wpAt_of_wpAny (wpAny_mono (ht.run [] s2 _ H _ I2 hq) (fun fl s3 hs3 => ?_) fun e s3 hs3 => hs3)
  have fin : ∀ {σ' : L2.St} {H' : Hp} {v : V} {u : Value}, Inv (cxX P w K mg base N qual scope f cda cc A outer s H E) [] σ' H' s3 → RelV v u → Q v H' → CE outer P w H s Q u s3 :=
    fun {σ' H' v u} J rv q => ⟨v, H', J.os, J.bare, J.base, J.hok, rv, q⟩
  cases fl with
  | ret u =>
    obtain ⟨v, σ', H', J, rv, q⟩ := hs3
    exact fin J rv q
  | next =>
    obtain ⟨σ', H', J, q⟩ := hs3
    exact fin (v := V.non) (u := Value.none) J rfl q
  | brk => exact hs3.elim fun _ z => z.elim fun _ z => z.2.elim
  | cont => exact hs3.elim fun _ z => z.elim fun _ z => z.2.elim
end
end Tw

set_option maxHeartbeats 2000000
namespace Tw
open PySem PySem.Spec L2
open PyProof.Rows hiding St
/-- what the __init__ of an own exception does: its fields, in the order of the parameters -/
def spX (C : Addr) (fs : List Str) : Sp := fun vs H Q _ => ∃ a us, vs = .ref a :: us ∧ us.length = fs.length ∧ H a = some (exo a C none) ∧
  ∀ dx H', H dx = none → dx ≠ a → H' a = some (exo a C (some dx)) → H' dx = some (exd dx (fKeys fs.reverse us.reverse)) → (∀ b, b ≠ a → b ≠ dx → H' b = H b) → Q .non H'
/-- the making of an own exception to be raised -/
def XMk (P : Program) (w : World) (K : PySem.W.Frag) (mg : Str → Option Value) (base : Heap) (G : Gc) (x : Str) (cn : String) (fs : List Str) (j : Nat) : Prop :=
  ∃ f fd ps, FnOk P w K mg base (L2.CX P w) j f fd ps (spX (G.cm cn) fs) ∧ OexC K (G.cm cn) ∧ PySem.W.findIn K (.ref (G.cm cn)) "__init__" = some (some (.ref f)) ∧ PySem.W.typeIn K (.ref f) = some (.type "function") ∧ mg x = some (.ref (G.cm cn)) ∧ Binds K fd ps [] ∧ fs.length ≤ 900
theorem RepL.rev {G : Gc} {Z : Addr → Prop} {H : Hp} : ∀ {ds : List D} {vs : List V}, RepL G Z H ds vs → RepL G Z H ds.reverse vs.reverse
  | [], vs, h => by rw [show vs = [] from h]; exact RepL.nil
  | d :: ds, vs, h => by
    obtain ⟨v, r, rfl, h1, h2⟩ := h
    rw [List.reverse_cons, List.reverse_cons]
    exact h2.rev.append (RepL.one h1)
section
variable {X : Cx} {Y : Cy} {e : Expr} {es : List Expr} {fs : DA} {pos pos' p : Pos} {x : Str} {cn : String} {ks : List Str} {j : Nat}
theorem ds_raise (M : XMk X.prog X.w X.K X.mg X.base Y.G x cn ks j) (hj : j + 1 ≤ Y.lv) (hg : Gl X x) (ha : PDA X Y (e :: es) fs) (hdb : (x == ("__debug__" : Str)) = false := by decide) (he : starEach (e :: es) X.env = (false, eval e X.env) :: starEach es X.env := by rfl)
    (hpl : (backTo pos (starEach es X.env)).any (·.1) = false := by rfl) (hca : Y.ca = true := by rfl) : PDS X Y (.Raise (some (.Call (.Name x p) (e :: es) [] pos)) none pos') (sRaise cn ks fs) := fun k => by
  obtain ⟨f, fd, ps, F, T, iC, tI, hm, hb, hk9⟩ := M
  refine impPS (ps_raise (k.calm hca) k.tk (pmk_oex (CX := L2.CX X.prog X.w) (ds := []) (dvs := []) T iC tI F ((k.room hca).mono hj) hb .nil (fun pins σ H s u s' I c => ?_) hg hm (ha k) hdb he hpl)) fun N σ H ⟨O, ρ, s, q⟩ => ?_
  · obtain ⟨a, B, H', cls, d, _, _, _, _, _, _, _, z⟩ := c
    exact z.elim
  · refine ⟨O, ρ, s, ?_⟩
    unfold sRaise at q
    cases ea : fs ρ with
    | no => rw [ea] at q; exact q
    | ex y => rw [ea] at q; exact fun c od H1 s1 xr => q O σ H1 c od (Stp.same s1) (s.same s1) xr
    | ok ds =>
      rw [ea] at q
      simp only [R.st_ok] at q
      split at q
      rotate_left
      · exact q.elim
      rename_i hlen
      intro vs H1 s1 rs
      have hvl : vs.length = ks.length := rs.length.symm.trans hlen
      refine ⟨by rw [hvl]; omega, fun a ha => ?_⟩
      rw [List.append_nil]
      refine ⟨a, vs, rfl, hvl, upd_same, fun dx H2 hd hne h1 h2 h3 => ⟨rfl, dx, _, h1, h2, ?_, ?_⟩⟩
      · rwa [upd_ne hne] at hd
      · rw [upd_ne hne] at hd
        have sm : Same H1 (upd (del H2 a) dx (.xd (fKeys ks.reverse vs.reverse))) := fun b o hb => by
          have b1 : b ≠ a := ne_of_none hb ha
          have b2 : b ≠ dx := ne_of_none hb hd
          rw [upd_ne b2, del_ne b1, h3 b b1 b2, upd_ne b1]
          exact hb
        refine q O σ _ _ _ (Stp.same (s1.trans sm)) (s.same (s1.trans sm)) ⟨rfl, dx, vs.reverse, rfl, upd_same, by rw [List.length_reverse, List.length_reverse, hvl], (rs.same sm).rev⟩
end
section
variable {X : Cx} {C a : Addr} {N : List Str}
/-- what is left to store: the names fs (each its parameter's name), gs are stored -/
theorem xst_first {f : Str} {i : Nat} {v : V} {σ : L2.St} {H : Hp} {D : Ends} (T : OexC X.K C) (hno : PySem.W.findIn X.K (.ref C) f = some none) (hs : σ[0]? = some (some (.ref a))) (hv : σ[i]? = some (some v)) (ha : H a = some (exo a C none))
    (hq : ∀ dx, H dx = none → dx ≠ a → D.nx σ (upd (upd H dx (exd dx [(f, v)])) a (exo a C (some dx)))) : tOst X.K f (tVar 0) (tVar i) D σ H :=
  ⟨v, hv, .ref a, hs, a, C, rfl, T, hno, .inl ⟨ha, hq⟩⟩
end
end Tw

set_option maxHeartbeats 2000000
namespace Tw
open PySem PySem.Spec L2
open PyProof.Rows hiding St
section
variable {P : Program} {w : World} {K : PySem.W.Frag} {mg : Str → Option Value} {base : Heap} {qual name : Str} {scope : Scope} {f cda cc C : Addr} {params : Arguments} {dV kV doc pm ct : Value} {an : Option Addr} {p0 p1 p2 apos pos pos' q1 q2 q3 q4 : Pos} {m pr fld : Str} {j k : Nat} {oc : Value} {od : Option Addr} {osl : Array (Option Value)} {fd : FuncData}
theorem fn_exc1 (hfd : fd = PySem.W.fnX name qual params (.Expr (.Call (.Attribute (.Call (.Name "super" p0) [] [] p1) "__init__" apos) [.Constant (.str m) j p2] [] pos) pos' :: [.Assign [.Attribute (.Name "self" q1) fld q2] (.Name pr q3) q4]) scope [("__class__", cc)] dV kV doc pm an (.ref cda) ct)
    (lk : K.lookup f = some ⟨oc, od, .func fd, osl⟩) (hcd : PySem.W.codeIn K (.ref cda) qual = true) (F : XcF P K C f fd cda cc) (T : OexC K C) (S : XScope ["self", pr] ["self", pr] scope) (hgs : mg "super" = none) (hno : PySem.W.findIn K (.ref C) fld = some none)
    (he : ∀ (A : Around) (outer : List Env) (s : Shared) (H : Hp) (E : XK), HeX p0 p1 p2 apos pos m j (cxX P w K mg base ["self", pr] qual scope f cda cc A outer s H E).env)
    (d1 : (pr == ("__debug__" : Str)) = false) (d2 : (pr == ("__classdict__" : Str)) = false) : FnOk P w K mg base (L2.CX P w) (k + 1) f fd ["self", pr] (spX C [fld]) := by
  refine fn_exc (he := he) hfd lk hcd F T S hgs rfl (fun vs H Q E h => ?_) (fun vs H Q E h => ?_) (fun A outer s H vs Q E h => ?_)
  · obtain ⟨a, us, rfl, hl, _⟩ := h
    rw [List.length_cons, hl]
    rfl
  · obtain ⟨a, us, rfl, _, ha, _⟩ := h
    exact ⟨a, us, rfl, ha⟩
  · obtain ⟨a, us, rfl, hl, ha, hq⟩ := h
    obtain ⟨v, rfl⟩ : ∃ v, us = [v] := by
      match us, hl with
      | [v], _ => exact ⟨v, rfl⟩
    have hp : scope.names.lookup pr = some .local := S.par pr (List.mem_cons_of_mem _ List.mem_cons_self)
    have hs : scope.names.lookup ("self" : Str) = some .local := S.par _ List.mem_cons_self
    refine ⟨_, pss_one (ps_ost (pe_var (i := 0) rfl (Or.inl hs) (by decide) (by decide)) (pe_var (i := 1) rfl (Or.inl hp) d1 d2)), ?_⟩
    refine xst_first T hno rfl rfl ha fun dx hd hne => ?_
    refine hq dx _ hd hne upd_same ?_ fun b b1 b2 => ?_
    · rw [upd_ne hne, upd_same]
      rfl
    · rw [upd_ne b1, upd_ne b2]
end
end Tw

set_option maxHeartbeats 2000000
namespace Tw
open PySem PySem.Spec L2
open PyProof.Rows hiding St
theorem oexB_ok {K : PySem.W.Frag} {c : Str} (h : oexB c K = true) : OexC K (He.ga K c) := by
  obtain ⟨h1, h⟩ := Bool.and_eq_true_iff.mp h
  obtain ⟨h2, h⟩ := Bool.and_eq_true_iff.mp h
  obtain ⟨h3, h⟩ := Bool.and_eq_true_iff.mp h
  obtain ⟨h4, h5⟩ := Bool.and_eq_true_iff.mp h
  refine ⟨?_, of_decide_eq_true h2, of_decide_eq_true h3, of_decide_eq_true h4, h5⟩
  split at h1
  · rename_i t dd cd sl ho
    obtain ⟨k1, h1⟩ := Bool.and_eq_true_iff.mp h1
    obtain ⟨k2, h1⟩ := Bool.and_eq_true_iff.mp h1
    obtain ⟨k3, h1⟩ := Bool.and_eq_true_iff.mp h1
    split at h1
    · rename_i C' bm k0 x1 x2 x3 n x5 hm hs
      obtain ⟨k4, h1⟩ := Bool.and_eq_true_iff.mp h1
      obtain ⟨k5, k6⟩ := Bool.and_eq_true_iff.mp h1
      obtain ⟨nm, bs, mro, ns, qn, hd, sn, sub, ab, col, del⟩ := cd
      have hm : mro = .ref C' :: bm := hm
      have k2 : hd = true := k2
      have k3 : (!del) = true := k3
      have hdel : del = false := by cases del <;> first | rfl | cases k3
      have e1 : t = "type" := of_decide_eq_true k1
      have e2 : C' = He.ga K c := of_decide_eq_true k4
      have e3 : n = "ValueError.__new__" := of_decide_eq_true k5
      have hsl : sl = #[k0, x1, x2, x3, some (.builtin n), x5] := by
        obtain ⟨l⟩ := sl
        exact congrArg Array.mk hs
      rw [e2] at hm
      subst hm k2 hdel e1 e3 hsl
      exact ⟨nm, qn, ns, bs, bm, sn, sub, ab, col, dd, k0, x1, x2, x3, x5, ho, k6⟩
    · cases h1
  · cases h1
structure XcA (P : Program) (K : PySem.W.Frag) (d : DefX) : Prop where
  ex : ∃ (fd : FuncData) (cc cda : Addr) (kV doc pm ct : Value) (an : Option Addr) (oc : Value) (od : Option Addr) (osl : Array (Option Value)),
    fd = PySem.W.fnX d.name d.qual d.params d.body d.scope [("__class__", cc)] .none kV doc pm an (.ref cda) ct ∧ K.lookup (mAd d.cls "__init__" K) = some ⟨oc, od, .func fd, osl⟩ ∧ PySem.W.codeIn K (.ref cda) d.qual = true ∧
      ((∃ ar, (d.params.posonlyargs ++ d.params.args).head? = some ar ∧ ar.arg = "self") → (P.main.scope.names.lookup ("super" : Str)).isSome = false → XcF P K (He.ga K d.cls) (mAd d.cls "__init__" K) fd cda cc)
  ini : PySem.W.findIn K (.ref (He.ga K d.cls)) "__init__" = some (some (.ref (mAd d.cls "__init__" K)))
  typ : PySem.W.typeIn K (.ref (mAd d.cls "__init__" K)) = some (.type "function")
theorem xcB_ok {P : Program} {K : PySem.W.Frag} {d : DefX} (h : xcB P d.cls d.qual K = true) (e : d.obs K = d.val) : XcA P K d := by
  obtain ⟨h1, h⟩ := Bool.and_eq_true_iff.mp h
  obtain ⟨h2, h⟩ := Bool.and_eq_true_iff.mp h
  obtain ⟨h3, h⟩ := Bool.and_eq_true_iff.mp h
  obtain ⟨h4, h⟩ := Bool.and_eq_true_iff.mp h
  obtain ⟨h5, h⟩ := Bool.and_eq_true_iff.mp h
  obtain ⟨h6, h⟩ := Bool.and_eq_true_iff.mp h
  obtain ⟨h7, h8⟩ := Bool.and_eq_true_iff.mp h
  refine ⟨?_, of_decide_eq_true h7, of_decide_eq_true h8⟩
  unfold DefX.obs at e
  split at h1
  rotate_left
  · cases h1
  rename_i fd hx
  rw [hx] at e
  split at h1
  rotate_left
  · cases h1
  rename_i x cc cda hcl hco hdf
  obtain ⟨k1, h1⟩ := Bool.and_eq_true_iff.mp h1
  obtain ⟨k2, h1⟩ := Bool.and_eq_true_iff.mp h1
  obtain ⟨k3, k4⟩ := Bool.and_eq_true_iff.mp h1
  have ex : x = ("__class__" : Str) := of_decide_eq_true k1
  subst ex
  unfold xfd at hx
  split at hx
  rotate_left
  · cases hx
  rename_i oc od fd' osl lk
  cases hx
  obtain ⟨n1, n2, n3, n4, n5, n6, n7, n8, n9, n10, n11, n12, n13, n14, n15⟩ := fd
  have e2 : (some (n1, n2, n3, n4, n5, n6, n15) : FnX) = some (d.name, d.qual, d.params, .stmts d.body, d.scope, mainGlobals, builtinsNs) := e
  simp only [Option.some.injEq, Prod.mk.injEq] at e2
  obtain ⟨g1, g2, g3, g4, g5, g6, g7⟩ := e2
  have hcl : n7 = [(("__class__" : Str), cc)] := hcl
  have hco : n13 = .ref cda := hco
  have hdf : n8 = .none := hdf
  subst g1 g2 g3 g4 g5 g6 g7 hcl hco hdf
  refine ⟨_, cc, cda, n9, n10, n11, n14, n12, oc, od, osl, rfl, lk, k2, fun hs ht => ?_⟩
  refine ⟨⟨_, _, _, lk⟩, hs, ?_, ?_, Option.isSome_iff_exists.mp h2, of_decide_eq_true h3, of_decide_eq_true h4, of_decide_eq_true h5, of_decide_eq_true h6, ht⟩
  · split at k4
    · rename_i a1 a2 vs a3 l2
      split at k4
      · rename_i file tf l3
        exact ⟨_, _, vs, _, file, tf, l2, l3, k4⟩
      · cases k4
    · cases k4
  · split at k3
    · rename_i a1 a2 D a3 l2
      have := of_decide_eq_true k3
      subst this
      exact ⟨_, _, _, l2⟩
    · cases k3
end Tw

set_option maxHeartbeats 2000000
namespace Tw
open PySem PySem.Spec L2
open PyProof.Rows hiding St
theorem obsXG_eq {n : Nat} {fb : List FrB} {fa : List He.Fa} {fn : List He5.DefA} {fx : List DefX} {g : Addr → Option Obj} {s : Shared} (h : ∀ a, g a = s.heap.get? a) : obsXG n fb fa fn fx g = (hookX n fb fa fn fx).obs s := by
  obtain rfl : g = s.heap.get? := funext h
  rfl
section
variable {fb : List FrB} {fa : List He.Fa} {fn : List He5.DefA} {fx : List DefX} {K : PySem.W.Frag}
theorem SaysX.base (c : SaysX fb fa fn fx K) : SaysT fb fa fn K := congrArg Prod.fst c
theorem SaysX.init (c : SaysX fb fa fn fx K) (i : Nat) {d : DefX} (h : fx[i]? = some d := by rfl) : d.obs K = d.val := by
  have z : fx.map (fun d => d.obs K) = fx.map DefX.val := congrArg Prod.snd c
  have z1 : (fx.map fun d => d.obs K)[i]? = (fx.map DefX.val)[i]? := by rw [z]
  rw [List.getElem?_map, List.getElem?_map, h] at z1
  exact Option.some.inj z1
end
section
variable {P : Program} {w : World} {K : PySem.W.Frag} {mg : Str → Option Value} {base : Heap}
/-- an own exception with one field -/
theorem xmk1 {d : DefX} {x pr fld : Str} {cn : String} {G : Gc} {p0 p1 p2 apos pos pos' q1 q2 q3 q4 : Pos} {m : Str} {j k : Nat} (X : XcA P K d) (T : OexC K (He.ga K d.cls)) (hG : G.cm cn = He.ga K d.cls) (hmx : mg x = some (.ref (He.ga K d.cls)))
    (hb : d.body = .Expr (.Call (.Attribute (.Call (.Name "super" p0) [] [] p1) "__init__" apos) [.Constant (.str m) j p2] [] pos) pos' :: [.Assign [.Attribute (.Name "self" q1) fld q2] (.Name pr q3) q4]) (S : XScope ["self", pr] ["self", pr] d.scope)
    (hs : ∃ ar, (d.params.posonlyargs ++ d.params.args).head? = some ar ∧ ar.arg = "self") (ht : (P.main.scope.names.lookup ("super" : Str)).isSome = false) (hgs : mg "super" = none) (hno : PySem.W.findIn K (.ref (He.ga K d.cls)) fld = some none)
    (hbd : ∀ (kV doc pm ct : Value) (an : Option Addr) (cc cda : Addr) (us : List Value), us.length = 2 → bindArgs (PySem.W.fnX d.name d.qual d.params d.body d.scope [("__class__", cc)] .none kV doc pm an (.ref cda) ct) ⟨us, []⟩ = pure ((["self", pr] : List Str).zip us))
    (he : ∀ (f cc cda : Addr) (A : Around) (outer : List Env) (s : Shared) (H : Hp) (E : XK), HeX p0 p1 p2 apos pos m j (cxX P w K mg base ["self", pr] d.qual d.scope f cda cc A outer s H E).env)
    (d1 : (pr == ("__debug__" : Str)) = false) (d2 : (pr == ("__classdict__" : Str)) = false) : XMk P w K mg base G x cn [fld] (k + 1) := by
  obtain ⟨fd, cc, cda, kV, doc, pm, ct, an, oc, od, osl, hfd, lk, hcd, hF⟩ := X.ex
  have F := hF hs ht
  have hfd' := hfd
  rw [hb] at hfd'
  unfold XMk
  rw [hG]
  refine ⟨_, fd, ["self", pr], fn_exc1 hfd' lk hcd F T S hgs hno (he _ cc cda) d1 d2, T, X.ini, X.typ, hmx, ?_, Nat.le_of_ble_eq_true rfl⟩
  subst hfd
  exact L2.Binds.all fun us hl => hbd kV doc pm ct an cc cda us hl
end
end Tw

set_option maxHeartbeats 2000000
namespace Tw
open PySem PySem.Spec L2
open PyProof.Rows hiding St
end Tw

namespace Tw
open PySem
abbrev GD := D → D → D → List D → R (D × D × D × D)
/-- C.__init__(self, ..) -/
def sInitC (i : Nat) (f : D → List D → R (D × D)) (as : DA) : DS := fun ρ => match ρ[i]? with
  | some (some (.slf (.obj c ks l))) => (as ρ).st ρ fun xs => if noGst l then (match f (.obj c ks l) xs with
    | .ok p => .ok (.nx (ρ.set i (some (.slf p.2))))
    | .ex e => .ok (.xx e (ρ.map fun _ => none))
    | .no => .no) else .no
  | _ => .no
/-- x(..), x a name that holds the class c -/
def eCls (c : String) (init : D → List D → R (D × D)) (i : Nat) (as : DA) : DE := fun ρ => match ρ[i]? with
  | some (some (.val (.cls c'))) => if c' = c then (as ρ).bind (mkD c init) else .no
  | _ => .no
/-- C.m(..), m a classmethod of C -/
def eClm (c : String) (f : List D → R D) (as : DA) : DE := fun ρ => (as ρ).bind fun xs => f (.cls c :: xs)
/-- how the arguments of Draft(..) come together -/
def gDr1 (ds es : List D) : List D := ds ++ (es ++ [.tup [], .tup []])
def gDr2 (ds es : List D) : List D := ds ++ (es ++ [.tup []])
def gDr3 (ds es : List D) : List D := ds ++ (es ++ [])
end Tw

namespace Tw
open PySem
end Tw

namespace Tw
open PySem
def oIsO (o c : String) : D → Option D
  | .obj o' _ _ => if o' = o then some (.bl (obSub o c)) else none
  | _ => none
theorem oIsO_some {o c : String} {d r : D} (h : oIsO o c d = some r) : ∃ ks l, d = .obj o ks l ∧ r = .bl (obSub o c) := by
  cases d with
  | obj o' ks l =>
    by_cases ho : o' = o
    · subst ho
      refine ⟨ks, l, rfl, ?_⟩
      simp only [oIsO, if_true] at h
      exact (Option.some.inj h).symm
    · simp only [oIsO, if_neg ho] at h
      cases h
  | _ => cases h
/-- sep.join(x), x a list of texts -/
def oJoin (a : Str) : D → Option D
  | .lst l => match strsD l with
    | some ys => if (ys.map (·.length)).sum + ys.length * a.length ≤ lineD then some (.str (Str.join a ys)) else none
    | none => none
  | _ => none
def eJoin (a b : DE) : DE := fun ρ => (a ρ).bind fun x => match x with
  | .str z => (b ρ).bind fun y => R.of (oJoin z y)
  | _ => .no
/-- e.f, e the caught error -/
def eXf (e : Ex) (f : Str) : DE := fun _ => R.of (lookD e.ks e.vs f)
/-- isinstance(e, c) -/
def eXi (e : Ex) (c : String) : DE := fun _ => .ok (.bl (exSub e.cls c))
def outX (i : Nat) : R Out → R Out
  | .ok (.nx ρ) => match ρ[i]? with | some none => .ok (.nx ρ) | _ => .no
  | .ok (.rt d ρ) => .ok (.rt d ρ)
  | _ => .no
def tryH : List Hd → Ex → DEnv → R Out
  | [], e, ρ => .ok (.xx e ρ)
  | h :: hs, e, ρ => if exSub e.cls h.1 then (match ρ[h.2.1]? with | some none => outX h.2.1 (h.2.2 e ρ) | _ => .no) else tryH hs e ρ
/-- try: b except ..: the classes es may come -/
def sTry (es : List String) (b : DS) (hs : List Hd) : DS := fun ρ => match b ρ with
  | .ok (.xx e ρ') => if e.cls ∈ es then tryH hs e ρ' else .no
  | r => r
end Tw

set_option maxHeartbeats 2000000
namespace Tw
open PySem PySem.Spec L2
open PyProof.Rows hiding St
/-- behind a clause's suite its name is gone -/
def goneE (i : Nat) (D : Ends) : Ends := { nx := fun σ H => D.nx (σ.set i none) H, rt := D.rt, bk := fun σ H => D.bk (σ.set i none) H, ct := fun σ H => D.ct (σ.set i none) H }
def wCl (K : PySem.W.Frag) (Wo : WX) (D : Ends) : List Cl → WX
  | [] => Wo
  | q :: r => fun cls d σ H => ∃ b, PySem.W.exmOne K cls q.1 = some b ∧ (b = true → ∀ a, H a = none → q.2.2 a cls d (goneE q.2.1 D) (σ.set q.2.1 (some (.ref a))) H) ∧ (b = false → wCl K Wo D r cls d σ H)
section
variable {X : Cx} {body : List Stmt} {h0 : ExceptHandler} {hs : List ExceptHandler} {l : List Cl} {pos : Pos} {tb : WX → TS} {Wo : WX}
theorem ps_tryCl (hst : X.stack = X.env :: X.outer) (hfr : X.env.frame = some X.env.locals) (hN : X.N.Nodup) (tk : Takes X Wo)
    (hb : ∀ (W : WX) (pn : List (Addr × Obj)) (xe : Value → Shared → Prop), Takes (X.tr pn xe) W → PassesOwn (model X.prog X.w) X.A X.env xe → PSs (X.tr pn xe) body (tb W))
    (hh : ClsOk X (h0 :: hs) l) : PS X (.Try body (h0 :: hs) [] [] pos) (fun D σ H => tb (wCl X.K Wo D l) D σ H) := by
  constructor
  intro pins s σ H D I q
  have ok := I.ok
  have fr : X.A.frames = some (X.env :: X.outer) := ok.frames.trans (congrArg some hst)
  let after : Value → Shared → Prop := fun e s₁ => wpAny (model X.prog X.w) X.A (noteFrame e X.env) (fun _ s₂ => wpAny (model X.prog X.w) X.A (setFlight e none) (fun _ s₃ => wpAny (model X.prog X.w) X.A (handleBy e X.env (h0 :: hs)) (SP X pins D) X.xe s₃) X.xe s₂) X.xe s₁
  refine wpAny_Try_except (wpAny_mono ((hb (wCl X.K Wo D l) (X.pn ++ pins) after ?caught PassesOwn.looking).run [] s σ H D (I.toTry _) q) ?through (fun e s1 he => he))
  case through =>
    intro f s1 sp
    cases f with
    | next => exact let ⟨σ', H', J, z⟩ := sp; wpAny_execs_nil ⟨σ', H', J.ofTry ok, z⟩
    | brk => exact let ⟨σ', H', J, z⟩ := sp; ⟨σ', H', J.ofTry ok, z⟩
    | cont => exact let ⟨σ', H', J, z⟩ := sp; ⟨σ', H', J.ofTry ok, z⟩
    | ret u => exact let ⟨v, σ', H', J, rv, z⟩ := sp; ⟨v, σ', H', J.ofTry ok, rv, z⟩
  case caught =>
    intro u t xx
    obtain ⟨a, B, sI, pins', σ1, H1, cls, d, eu, J0, nb, up, sky, na, os, ag, w⟩ := xx
    subst eu
    have J : Inv X pins σ1 H1 sI := J0.ofTry ok
    have sky1 : Sky B (X.env :: X.outer) a (Zc cls d) X.env.locals t.heap := hst ▸ sky
    refine Sky.land Zc.steady fr hfr sky1 fun g1 fl1 up1 => ?_
    have J1 : Inv X pins σ1 H1 { t with heap := g1 } := J.landed nb fl1.1 (up.trans up1) os ag
    obtain ⟨ob, fs, hob, hzo, hdo⟩ := fl1.there
    have far : a ∉ frs (X.env :: X.outer) := by
      intro hm
      obtain ⟨_, o', e', hnf⟩ := fl1.2.2.1.mem hm
      rw [hob] at e'
      cases e'
      exact hnf _ hdo
    have nL : a ≠ X.env.locals := fun z => far (List.mem_filterMap.mpr ⟨X.env, List.mem_cons_self, hfr.trans (congrArg some z.symm)⟩)
    have nF : a ∉ X.fs := by
      intro hm
      obtain ⟨e, he, z⟩ := List.mem_filterMap.mp hm
      exact far (List.mem_filterMap.mpr ⟨e, List.mem_cons_of_mem _ he, z⟩)
    have K1 := J1.suite hob hdo na nL nF
    have walk : ∀ {hs' : List ExceptHandler} {l' : List Cl}, ClsOk X hs' l' → wCl X.K Wo D l' cls d σ1 H1 → wpAny (model X.prog X.w) X.A (handleBy (.ref a) X.env hs') (SP X pins D) X.xe { t with heap := g1 } := by
      intro hs' l' hk
      induction hk with
      | nil =>
        intro w
        refine wpAny_handleBy_nil ?_
        obtain ⟨_, _, _, oe, vs, T, _, _, he, _, hd, h1, _⟩ := id fl1
        unfold PySem.passOn
        refine wpAny_bind (wpAny_field he hd h1 ?_)
        rw [if_neg (show ¬ (Value.ref T == Value.none) = true by simp)]
        have fin : wpAny (model X.prog X.w) X.A (setFlight (.ref a) X.env.frame) (fun _ s4 => wpAny (model X.prog X.w) X.A (throw (.ref a) : Sem Flow) (SP X pins D) X.xe s4) X.xe { t with heap := g1 } := by
          rw [hfr]
          refine HandSPX.setFlight_upZ fl1 fun g2 hg2 up2 => wpAny_throw (tk _ _ ⟨a, B, sI, pins, σ1, H1, cls, d, rfl, J, nb, (up.trans up1).trans up2, .inr (.inr (hst ▸ hg2)), na, os, ag, w⟩)
        first | exact wpAny_bind (wpAny_pure (wpAny_bind fin)) | exact wpAny_bind fin
      | @cons x n c i ts s0 su np hp hs2 l2 hc hi hl h r ih =>
        intro w
        obtain ⟨b, hb1, yes, no⟩ := w
        refine wpAny_handleBy_cons (codeAny_handlers_test ?_) (by intro z; cases z)
        have look : PySem.W.Looks (model X.prog X.w) g1 (typeOf (.ref a)) cls := fun A Q E s k z => wpAny_typeOf_ref (k _ _ hob) (hzo.1.symm ▸ z)
        have lm := PySem.W.exm_one (M := model X.prog X.w) J1.kIn look hb1
        have test : ∀ {Q : Value → Shared → Prop} {E : Value → Shared → Prop}, Q c { t with heap := g1 } → wpAny (model X.prog X.w) (X.A.mark (some (.ref a))) (eval (.Name x np) X.env) Q E { t with heap := g1 } := by
          intro Q E z
          obtain ⟨hg, hdbg, hm | ⟨hm, hv, hnn⟩⟩ := hc
          · exact ld_glob (X := X.suite a ((a, ob) :: (X.pn ++ pins))) K1 hg hm z hdbg
          · exact ld_blt (X := X.suite a ((a, ob) :: (X.pn ++ pins))) K1 hg hm hv z hnn hdbg
        refine test (lm.here ?_)
        cases b with
        | false => exact ih (no rfl)
        | true =>
          refine codeAny_handlers_suite_as (HandSPX.lands_againZ fl1 fun g2 fl2 up2 => ?_)
          have J2 : Inv X pins σ1 H1 { t with heap := g2 } := J.landed nb fl2.1 ((up.trans up1).trans up2) os ag
          obtain ⟨ob2, fs2, hob2, hzo2, hdo2⟩ := fl2.there
          have K2 := J2.suite hob2 hdo2 na nL nF
          refine store_ok (X := X.suite a ((a, ob2) :: (X.pn ++ pins))) (v := .ref a) K2 hN hi (.inl hl) rfl (fun s5 K5 => ?_) (.inr hl)
          refine wpAny_mono ((h a ob2 cls d (X.pn ++ pins) hzo2 ⟨_, hdo2⟩).run [] s5 _ H1 _ K5 (yes rfl a na)) ?_ (fun _ _ z => z.elim)
          intro f s6 sp
          have fin : ∀ {σ6 : L2.St} {H6 : Hp} {Q : Shared → Prop}, Inv (X.suite a ((a, ob2) :: (X.pn ++ pins))) [] σ6 H6 s6 → (∀ s7, Inv X pins (σ6.set i none) H6 s7 → Q s7) →
              wpAny (model X.prog X.w) X.A (do bindName X.env n .none; unbindBehindTheSuite X.env n hp) (fun _ s7 => Q s7) X.xe s6 := fun K6 hq => gone_ok (K6.unsuite ok) hN hi hl hq
          cases f with
          | next => exact let ⟨σ6, H6, K6, z⟩ := sp; fin K6 fun s7 J7 => ⟨_, _, J7, z⟩
          | brk => exact let ⟨σ6, H6, K6, z⟩ := sp; fin K6 fun s7 J7 => ⟨_, _, J7, z⟩
          | cont => exact let ⟨σ6, H6, K6, z⟩ := sp; fin K6 fun s7 J7 => ⟨_, _, J7, z⟩
          | ret u => exact let ⟨v6, σ6, H6, K6, r6, z⟩ := sp; fin K6 fun s7 J7 => ⟨_, _, _, J7, r6, z⟩
    exact walk hh w
end
end Tw

set_option maxHeartbeats 2000000
namespace Tw
open PySem PySem.Spec L2
open PyProof.Rows hiding St
theorem XAt.same {Y : Cy} {S : Sc} {O : Addr → Prop} {σ : L2.St} {H H' : Hp} (h : XAt Y S O σ H) (s : Same H H') : XAt Y S O σ H' := ⟨h.sl, let ⟨vs, e1, e2, r⟩ := h.xd; ⟨vs, s _ _ e1, e2, r.same s⟩⟩
def tEA (Y : Cy) (S : Sc) (f : DA) : TA := fun σ H Q => ∃ O ρ, SR Y O ρ σ H ∧ XAt Y S O σ H ∧ APost Y O σ H Q (f ρ)
def PDeA (X : Cx) (Y : Cy) (S : Sc) (es : List Expr) (f : DA) : Prop := Lk X Y → PA X es (tEA Y S f)
def PDeS (X : Cx) (Y : Cy) (S : Sc) (st : Stmt) (F : DS) : Prop := Lk X Y → PS X st (tES Y S F)
section
variable {X : Cx} {Y : Cy} {S : Sc} {a b c e : Expr} {es : List Expr} {fa fb : DE} {fs : DA} {ga gb : DT} {G1 G2 F : DS} {st : Stmt} {rest A B : List Stmt} {pos p p2 : Pos} {O : Addr → Prop} {ρ : DEnv} {σ : L2.St} {H H1 : Hp}
theorem de_lift (h : PD X Y e fa) : PDe X Y S e fa := fun k => impPE (h k) fun σ H Q ⟨O, ρ, s, _, q⟩ => ⟨O, ρ, s, q⟩
theorem dea_nil : PDeA X Y S [] aNil := fun k => impPA pa_nil fun σ H Q ⟨O, ρ, s, _, q⟩ => q [] H (Same.refl H) rfl
theorem dea_cons (ha : PDe X Y S a fa) (hr : PDeA X Y S es fs) (hs : starEach (a :: es) X.env = (false, eval a X.env) :: starEach es X.env := by rfl) : PDeA X Y S (a :: es) (aCons fa fs) := fun k => impPA (pa_cons (ha k) (hr k) hs) fun σ H Q ⟨O, ρ, s, x, q⟩ => by
  refine ⟨O, ρ, s, x, ?_⟩
  unfold aCons at q
  cases ea : fa ρ with
  | ex e => exact (show APost Y O σ H Q (R.bind (.ex e) _) from ea ▸ q)
  | no => exact (show APost Y O σ H Q (R.bind .no _) from ea ▸ q)
  | ok dx =>
    rw [ea, R.bind_ok] at q
    intro v H1 s1 rx
    refine ⟨O, ρ, s.same s1, x.same s1, ?_⟩
    cases eb : fs ρ with
    | ex e => rw [eb] at q; exact ex_fwd s1 q
    | no => rw [eb] at q; exact q
    | ok ds =>
      rw [eb] at q
      exact fun vs H2 s2 rs => q _ H2 (s1.trans s2) (RepL.cons (rx.same s2) rs)
theorem de_one {op : BoolOp} (ha : PDe X Y S a fa) : PDe X Y S (.BoolOp op [a] pos) fa := fun k => pe_one (ha k)
theorem de_and (ha : PDe X Y S a fa) (hb : PDe X Y S (.BoolOp .And (b :: es) pos) fb) : PDe X Y S (.BoolOp .And (a :: b :: es) pos) (eAnd fa fb) := fun k => impPE (pe_and (ha k) (hb k)) fun σ H Q ⟨O, ρ, s, x, q⟩ => by
  refine ⟨O, ρ, s, x, ?_⟩
  unfold eAnd at q
  cases ea : fa ρ with
  | ex e => exact (show EPost Y O σ H Q (R.bind (.ex e) _) from ea ▸ q)
  | no => exact (show EPost Y O σ H Q (R.bind .no _) from ea ▸ q)
  | ok dx =>
    rw [ea, R.bind_ok] at q
    intro v H1 s1 rx
    cases dx with
    | bl kk =>
      refine ⟨kk, rx, ?_⟩
      cases kk with
      | true => exact ⟨O, ρ, s.same s1, x.same s1, EPost.fwd s1 q⟩
      | false => exact q _ H1 s1 rfl
    | _ => exact q.elim
theorem de_not (ha : PDe X Y S a fa) : PDe X Y S (.UnaryOp .Not a pos) (eNot fa) := fun k => impPE (pe_not (ha k)) fun σ H Q ⟨O, ρ, s, x, q⟩ => by
  refine ⟨O, ρ, s, x, ?_⟩
  unfold eNot at q
  cases ea : fa ρ with
  | ex e => exact (show EPost Y O σ H Q (R.bind (.ex e) _) from ea ▸ q)
  | no => exact (show EPost Y O σ H Q (R.bind .no _) from ea ▸ q)
  | ok dx =>
    rw [ea, R.bind_ok] at q
    intro v H1 s1 rx
    cases dx with
    | bl kk => exact ⟨kk, rx, q _ H1 s1 rfl⟩
    | _ => exact q.elim
theorem arg_impE {g : List D → Option D} {r : List V → Hp → VK → Prop} (ho : ∀ Z H vs ds Q, (∀ a, Z a → H a ≠ none) → RepL Y.G Z H ds vs → OPost Y.G Z H Q (g ds) → r vs H Q) (σ : L2.St) (H : Hp) (Q : VK)
    (h : tE Y S (fun ρ => (fs ρ).bind fun xs => R.of (g xs)) σ H Q) : tEA Y S fs σ H (fun vs H1 => r vs H1 Q) := by
  obtain ⟨O, ρ, s, x, q⟩ := h
  refine ⟨O, ρ, s, x, ?_⟩
  have q : EPost Y O σ H Q ((fs ρ).bind fun xs => R.of (g xs)) := q
  cases ea : fs ρ with
  | ex e => rw [ea] at q; exact q
  | no => rw [ea] at q; exact q
  | ok ds =>
    rw [ea, R.bind_ok] at q
    intro vs H1 s1 rs
    refine ho _ H1 vs ds Q ((s.same s1).zt) rs ?_
    cases eg : g ds with
    | none => rw [eg] at q; exact q
    | some d => rw [eg] at q; exact fun v H3 s3 rv => q v H3 (s1.trans s3) rv
theorem de_tup {x1 : Nat} (ha : PDeA X Y S es fs) : PDe X Y S (.Tuple es x1 pos) (eTup fs) := fun k => by
  rw [eTup_of]
  refine impPE (pe_tup (ha k)) fun σ H Q h => arg_impE (r := fun xs H1 Q => xs.length ≤ sizeLine ∧ ∀ p, H1 p = none → Q (.ref p) (upd H1 p (.tup xs))) (fun Z H vs ds Q zt rs q => ?_) σ H Q h
  split at q
  · rename_i hl
    exact ⟨(lineD_eq ▸ rs.length ▸ hl : vs.length ≤ sizeLine), fun n hn => q _ _ (same_new hn) ⟨n, _, rfl, .inl ⟨fun z => zt n z hn, upd_same⟩, rs.same (same_new hn)⟩⟩
  · exact q.elim
theorem dse_one (h1 : PDeS X Y S st F) : PDeSs X Y S [st] F := fun k => pss_one (h1 k)
theorem dse_ret (ha : PDe X Y S a fa) : PDeS X Y S (.Return (some a) pos) (sRet fa) := fun k => impPS (ps_ret (ha k)) fun N σ H ⟨O, ρ, s, x, q⟩ => by
  refine ⟨O, ρ, s, x, ?_⟩
  have q : SPost Y O H N ((fa ρ).st ρ fun d => .ok (.rt d ρ)) := q
  cases ea : fa ρ with
  | no => rw [ea] at q; exact q
  | ex e => rw [ea] at q; exact fun c od H1 s1 xr => q O σ H1 c od (Stp.same s1) (s.same s1) xr
  | ok d => rw [ea] at q; exact fun v H1 s1 rv => q O σ H1 v (Stp.same s1) (s.same s1) rv
end
end Tw

set_option maxHeartbeats 2000000
namespace Tw
open PySem PySem.Spec L2
open PyProof.Rows hiding St
structure EcC (K : PySem.W.Frag) (D : Addr) : Prop where
  cl : (PySem.W.clsIn K D).isSome = true
  ga : PySem.W.findIn K (.ref D) "__getattribute__" = some (some (.builtin "BaseException.__getattribute__"))
  gt : PySem.W.findIn K (.ref D) "__getattr__" = some none
  sb : PySem.W.subIn K (.ref D) (.type "BaseException") = some true
  ca : PySem.W.findIn K (.ref D) "__class__" = some (some (.builtin "object.__class__"))
  gn : PySem.W.specialIn K (.builtin "object.__class__") "__get__" = some (some (.builtin "getset_descriptor.__get__"))
  tk : PySem.W.takesIn K (.builtin "object.__class__") = some true
  ob : PySem.W.mroIn K D (.type "object") = some true
theorem ecB_ok {K : PySem.W.Frag} {D : Addr} (h : ecB K D = true) : EcC K D := by
  obtain ⟨h0, h⟩ := Bool.and_eq_true_iff.mp h
  obtain ⟨h1, h⟩ := Bool.and_eq_true_iff.mp h
  obtain ⟨h2, h⟩ := Bool.and_eq_true_iff.mp h
  obtain ⟨h3, h⟩ := Bool.and_eq_true_iff.mp h
  obtain ⟨h4, h⟩ := Bool.and_eq_true_iff.mp h
  obtain ⟨h5, h⟩ := Bool.and_eq_true_iff.mp h
  obtain ⟨h6, h7⟩ := Bool.and_eq_true_iff.mp h
  exact ⟨h0, of_decide_eq_true h1, of_decide_eq_true h2, of_decide_eq_true h3, of_decide_eq_true h4, of_decide_eq_true h5, of_decide_eq_true h6, of_decide_eq_true h7⟩
/-- the classes es may come; they are asked for the classes cs, their fields are of fs -/
structure XcsOk (K : PySem.W.Frag) (es cs : List String) (fs : List Str) : Prop where
  xf : ∀ a ∈ es, XfC K (cmOf K a)
  ec : ∀ a ∈ es, EcC K (cmOf K a)
  ex : ∀ a ∈ es, ∀ c ∈ cs, PySem.W.exmOne K (.ref (cmOf K a)) (cvX K c) = some (exSub a c)
  ki : ∀ a ∈ es, ∀ c ∈ cs, PySem.W.kitOne K (.ref (cmOf K a)) (cvX K c) = some (exSub a c)
  fl : ∀ a ∈ es, ∀ f ∈ fs, PySem.W.findIn K (.ref (cmOf K a)) f = some none
theorem cvX_ne {K : PySem.W.Frag} {c : String} (h : c ≠ "ValueError") : cvX K c = .ref (cmOf K c) := if_neg h
theorem XcsOk.exr {K : PySem.W.Frag} {es cs : List String} {fs : List Str} (W : XcsOk K es cs fs) {a c : String} (ha : a ∈ es) (hc : c ∈ cs) (h : c ≠ "ValueError") : PySem.W.exmOne K (.ref (cmOf K a)) (.ref (cmOf K c)) = some (exSub a c) := cvX_ne (K := K) h ▸ W.ex a ha c hc
theorem xcsB_ok {K : PySem.W.Frag} {es cs : List String} {fs : List Str} (h : xcsB es cs fs K = true) : XcsOk K es cs fs := by
  have g := fun a ha => Bool.and_eq_true_iff.mp (List.all_eq_true.mp h a ha)
  have g2 := fun a ha => Bool.and_eq_true_iff.mp (g a ha).2
  have g3 := fun a ha => Bool.and_eq_true_iff.mp (g2 a ha).2
  exact ⟨fun a ha => xfB_ok (g a ha).1, fun a ha => ecB_ok (g2 a ha).1, fun a ha c hc => of_decide_eq_true (Bool.and_eq_true_iff.mp (List.all_eq_true.mp (g3 a ha).1 c hc)).1,
    fun a ha c hc => of_decide_eq_true (Bool.and_eq_true_iff.mp (List.all_eq_true.mp (g3 a ha).1 c hc)).2, fun a ha f hf => of_decide_eq_true (List.all_eq_true.mp (g3 a ha).2 f hf)⟩
section
variable {X : Cx} {Y : Cy} {S : Sc} {es es' cs : List String} {fs : List Str} {pos p p2 p3 : Pos} {n : Str}
/-- e.f -/
theorem de_xf (su : SuOk X Y S es) (W : XcsOk X.K es' cs fs) (hes : ∀ a ∈ es, a ∈ es') (hG : ∀ c, Y.G.cm c = cmOf X.K c) {f : Str} (hf : f ∈ fs) (hN : X.N[S.i]? = some n) (hvs : Vis X.env.scope n := by first | exact Or.inl rfl | exact Or.inr (Or.inl rfl) | exact Or.inr (Or.inr rfl))
    (hd : (n == ("__debug__" : Str)) = false := by decide) (hcd : (n == ("__classdict__" : Str)) = false := by decide) (hb : attributeBase (.Name n p) f X.env (eval (.Name n p) X.env) = eval (.Name n p) X.env := by rfl) :
    PDe X Y S (.Attribute (.Name n p) f pos) (eXf S.e f) := fun k => by
  obtain ⟨X0, oe, pn, rfl, hz, hv, he⟩ := su
  have he := hes _ he
  rw [hG] at hz
  refine impPE (pe_xf (X := X0) (W.xf _ he) (W.fl _ he f hf) hz hv (pe_var (X := X0.suite S.a ((S.a, oe) :: pn)) hN hvs hd hcd) hb) fun σ H Q ⟨O, ρ, s, x, q⟩ => ?_
  obtain ⟨us, h1, h2, h3⟩ := x.xd
  have lk := look_fld f h2 h3
  unfold eXf at q
  cases el : lookD S.e.ks S.e.vs f with
  | none => rw [el] at q; exact q.elim
  | some d =>
    rw [el] at q lk
    obtain ⟨v, hl, rv⟩ := lk
    exact ⟨_, x.sl, rfl, rfl, S.dd, _, v, rfl, h1, hl, q v H (Same.refl H) rv⟩
def rIsX (K : PySem.W.Frag) (D a dd : Addr) : List V → Hp → VK → Prop := fun xs H Q => ∃ (c : V) (cv : Value) (b : Bool) (gs : List (Str × V)), xs = [.ref a, c] ∧ (∀ u, RelV c u → u = cv) ∧ PySem.W.kitOne K (.ref D) cv = some b ∧ H dd = some (.xd gs) ∧ Q (.bl b) H
theorem call_isX {X0 : Cx} {a dd : Addr} {oe : Obj} {pn : List (Addr × Obj)} {D : Addr} (C : EcC X0.K D) (hz : Zc (.ref D) (some dd) oe) (hf : ∃ vs, oe.data = .fields vs) : CallR (X0.suite a ((a, oe) :: pn)) (.builtin "isinstance") (rIsX X0.K D a dd) := by
  intro pins s σ H xs us Q I r h
  obtain ⟨c, cv, b, gs, rfl, hcv, ek, hx, q⟩ := h
  obtain ⟨u1, u2, rfl, r1, r2⟩ := vals2 r
  obtain rfl : u1 = Value.ref a := r1
  obtain rfl := hcv _ r2
  obtain ⟨hget, _⟩ := I.pin (a, oe) (List.mem_append_left _ List.mem_cons_self)
  obtain ⟨mA, hns, _⟩ := (show ObjOk X0.prog X0.w H s.heap dd (.xd gs) from I.hok dd _ hx)
  obtain ⟨od, ho, _⟩ := lookIn_ns hns
  obtain ⟨vs, hv⟩ := hf
  have J : PySem.W.InstAt s.heap a oe D (some od) := ⟨hget, hz.1, by unfold PySem.W.notCls; rw [hv] <;> rfl, by rw [hz.2]; exact ho⟩
  exact PySem.W.kia_one (PySem.W.kitx_exc C.cl C.ga C.gt C.sb C.ca C.gn C.tk C.ob) I.kIn J ek (fun z => nomatch z) fun tk => ⟨.bl b, H, I.kept (t' := tk) fun _ _ z => z, rfl, q⟩
theorem isi_imp {K : PySem.W.Frag} {D : Addr} {c : V} {cv : Value} {cn : String} (hcv : ∀ u, RelV c u → u = cv) (hk : PySem.W.kitOne K (.ref D) cv = some (exSub S.e.cls cn)) (σ : L2.St) (H : Hp) (Q : VK) (h : tE Y S (eXi S.e cn) σ H Q) :
    tVar S.i σ H (fun x H1 => rIsX K D S.a S.dd [x, c] H1 Q) := by
  obtain ⟨O, ρ, s, x, q⟩ := h
  obtain ⟨us, h1, _⟩ := x.xd
  exact ⟨_, x.sl, c, cv, _, _, rfl, hcv, hk, h1, q _ H (Same.refl H) rfl⟩
/-- isinstance(e, C), C a class of the program -/
theorem de_isi (su : SuOk X Y S es) (W : XcsOk X.K es' cs fs) (hes : ∀ a ∈ es, a ∈ es') (hG : ∀ c, Y.G.cm c = cmOf X.K c) (c : String) {x : Str} (hcs : c ∈ cs) (hN : X.N[S.i]? = some n)
    (hg : Gl X "isinstance") (hm : X.mg "isinstance" = none) (hg2 : Gl X x) (hm2 : X.mg x = some (.ref (cmOf X.K c))) (hne : c ≠ "ValueError")
    (hvs : Vis X.env.scope n := by first | exact Or.inl rfl | exact Or.inr (Or.inl rfl) | exact Or.inr (Or.inr rfl)) (hd : (n == ("__debug__" : Str)) = false := by decide) (hcd : (n == ("__classdict__" : Str)) = false := by decide) (hdb : (x == ("__debug__" : Str)) = false := by decide)
    (hs : starEach (.Name n p :: [.Name x p2]) X.env = (false, eval (.Name n p) X.env) :: starEach [.Name x p2] X.env := by rfl) (hs2 : starEach (.Name x p2 :: []) X.env = (false, eval (.Name x p2) X.env) :: starEach [] X.env := by rfl)
    (hpl : (backTo pos (starEach [.Name x p2] X.env)).any (·.1) = false := by rfl) : PDe X Y S (.Call (.Name "isinstance" p3) [.Name n p, .Name x p2] [] pos) (eXi S.e c) := fun k => by
  obtain ⟨X0, oe, pn, rfl, hz, hv, he⟩ := su
  have he := hes _ he
  rw [hG] at hz
  have hk := W.ki _ he c hcs
  rw [cvX_ne hne] at hk
  refine impPE (pe_callB (X := X0.suite S.a ((S.a, oe) :: pn)) (call_isX (W.ec _ he) hz hv) hg hm (by decide +kernel) (pa_cons (pe_var (X := X0.suite S.a ((S.a, oe) :: pn)) hN hvs hd hcd) (pa_cons (pe_glob (X := X0.suite S.a ((S.a, oe) :: pn)) (v := .ref (cmOf X0.K c)) hg2 hm2 rfl hdb) pa_nil hs2) hs) (he := hs) (hpl := hpl)) fun σ H Q h =>
    isi_imp (c := V.ref (cmOf X0.K c)) (cv := Value.ref (cmOf X0.K c)) (fun u r => r) hk σ H Q h
/-- isinstance(e, ValueError) -/
theorem de_isiV (su : SuOk X Y S es) (W : XcsOk X.K es' cs fs) (hes : ∀ a ∈ es, a ∈ es') (hG : ∀ c, Y.G.cm c = cmOf X.K c) (hcs : "ValueError" ∈ cs) (hN : X.N[S.i]? = some n)
    (hg : Gl X "isinstance") (hm : X.mg "isinstance" = none) (hg2 : Gl X "ValueError") (hm2 : X.mg "ValueError" = none)
    (hvs : Vis X.env.scope n := by first | exact Or.inl rfl | exact Or.inr (Or.inl rfl) | exact Or.inr (Or.inr rfl)) (hd : (n == ("__debug__" : Str)) = false := by decide) (hcd : (n == ("__classdict__" : Str)) = false := by decide)
    (hs : starEach (.Name n p :: [.Name "ValueError" p2]) X.env = (false, eval (.Name n p) X.env) :: starEach [.Name "ValueError" p2] X.env := by rfl) (hs2 : starEach (.Name "ValueError" p2 :: []) X.env = (false, eval (.Name "ValueError" p2) X.env) :: starEach [] X.env := by rfl)
    (hpl : (backTo pos (starEach [.Name "ValueError" p2] X.env)).any (·.1) = false := by rfl) : PDe X Y S (.Call (.Name "isinstance" p3) [.Name n p, .Name "ValueError" p2] [] pos) (eXi S.e "ValueError") := fun k => by
  obtain ⟨X0, oe, pn, rfl, hz, hv, he⟩ := su
  have he := hes _ he
  rw [hG] at hz
  have hk := W.ki _ he _ hcs
  refine impPE (pe_callB (X := X0.suite S.a ((S.a, oe) :: pn)) (call_isX (W.ec _ he) hz hv) hg hm (by decide +kernel) (pa_cons (pe_var (X := X0.suite S.a ((S.a, oe) :: pn)) hN hvs hd hcd) (pa_cons (pe_bltn (X := X0.suite S.a ((S.a, oe) :: pn)) (v := .ty "ValueError") hg2 hm2 (by decide +kernel) rfl) pa_nil hs2) hs) (he := hs) (hpl := hpl)) fun σ H Q h =>
    isi_imp (c := V.ty "ValueError") (cv := Value.type "ValueError") (fun u r => r) hk σ H Q h
end
section
variable {X : Cx} {Y : Cy} {O : Addr → Prop} {ρ : DEnv} {σ : L2.St} {H : Hp}
theorem SR.reE {W : WX} {c : Bool} (s : SR Y O ρ σ H) : SR { Y with E := W, ca := c } O ρ σ H := let ⟨α, h⟩ := s; ⟨α, ⟨h.len, h.val, h.own, h.slf, h.gho, h.inj, h.oeq, h.zt, h.ot, h.ptr⟩⟩
theorem SR.unE {W : WX} {c : Bool} (s : SR { Y with E := W, ca := c } O ρ σ H) : SR Y O ρ σ H := let ⟨α, h⟩ := s; ⟨α, ⟨h.len, h.val, h.own, h.slf, h.gho, h.inj, h.oeq, h.zt, h.ot, h.ptr⟩⟩
theorem Lk.tr (k : Lk X Y) {W : WX} {pn : List (Addr × Obj)} {xe : Value → Shared → Prop} (tk : Takes (X.tr pn xe) W) (po : PassesOwn (model X.prog X.w) X.A X.env xe) : Lk (X.tr pn xe) { Y with E := W } :=
  ⟨k.K, k.ln, tk, k.rm, k.hd, k.nd, po, k.calm⟩
theorem tryH_post {es : List String} {e : Ex} {N : Ends} {H0 : Hp} {O0 : Addr → Prop} (k : Lk X Y) (he : e.cls ∈ es) {hs : List ExceptHandler} {hds : List Hd} (hh : HdsD X Y es hs hds) (st : Stp O0 H0 O H) (s : SR Y O ρ σ H) {c : Value} {od : Option Addr} (xr : ExRep Y.G (Zo Y.Ze O) H e c od)
    (q : SPost Y O0 H0 N (tryH hds e ρ)) : wCl X.K Y.E N (hds.map (clOfD Y es)) c od σ H := by
  induction hh with
  | nil => exact q O σ H c od st s xr
  | @cons x n cn i fs s0 su np hp hs hds hc hi hl hex h r ih =>
    obtain ⟨rfl, dd, vs, rfl, hx1, hx2, hx3⟩ := id xr
    refine ⟨_, hex _ he, fun hb a ha => ?_, fun hb => ?_⟩
    · unfold tryH at q
      have hb : exSub e.cls cn = true := hb
      rw [if_pos hb] at q
      split at q
      · rename_i hi0
        have hlt : i < σ.length := by
          rw [s.choose_spec.len.1, ← k.ln]
          exact (List.getElem?_eq_some_iff.mp hi).1
        refine ⟨e, dd, rfl, rfl, he, O, ρ, (s.any hi0).reE, ⟨List.getElem?_set_self hlt, vs, hx1, hx2, hx3⟩, ?_⟩
        have st' : ∀ {O' : Addr → Prop} {H' : Hp}, Stp O H O' H' → Stp O0 H0 O' H' := fun z => st.trans z
        have q : SPost Y O0 H0 N (outX i (fs e ρ)) := q
        show SPost Y.su O H (goneE i N) (fs e ρ)
        cases eo : fs e ρ with
        | no => rw [eo] at q; exact q.elim
        | ex z => rw [eo] at q; exact q.elim
        | ok o =>
          rw [eo] at q
          cases o with
          | nx ρ2 =>
            unfold outX at q
            dsimp only at q
            split at q
            · rename_i h2
              exact fun O' σ' H' z s' => q O' _ H' (st' z) ((SR.unE s').any h2)
            · exact q.elim
          | rt d ρ2 => exact fun O' σ' H' v z s' rv => q O' σ' H' v (st' z) (SR.unE s') rv
          | bk ρ2 => exact q.elim
          | ct ρ2 => exact q.elim
          | xx z ρ2 => exact q.elim
      · exact q.elim
    · refine ih ?_
      unfold tryH at q
      rwa [if_neg (show ¬ exSub e.cls cn = true by rw [hb]; exact Bool.false_ne_true)] at q
end
end Tw

set_option maxHeartbeats 2000000
namespace Tw
open PySem PySem.Spec L2
open PyProof.Rows hiding St
end Tw

set_option maxHeartbeats 2000000
namespace Tw
open PySem PySem.Spec L2
open PyProof.Rows hiding St
end Tw

set_option maxHeartbeats 2000000
namespace Tw
open PySem PySem.Spec L2
open PyProof.Rows hiding St
end Tw
namespace Tw
open PySem PySem.Spec L2
open PyProof.Rows hiding St
end Tw

set_option maxHeartbeats 2000000
namespace Tw
open PySem PySem.Spec L2
open PyProof.Rows hiding St
end Tw

set_option maxHeartbeats 2000000
namespace Tw
open PySem PySem.Spec L2
open PyProof.Rows hiding St
end Tw

set_option maxHeartbeats 2000000
namespace Tw
open PySem PySem.Spec L2
open PyProof.Rows hiding St
end Tw

set_option maxHeartbeats 2000000
namespace Tw
open PySem PySem.Spec L2
open PyProof.Rows hiding St
end Tw

set_option maxHeartbeats 400000
namespace Tw
open PySem PySem.Spec L2
open PyProof.Rows hiding St
/-- what the class o's instances answer to isinstance(.., c) -/
structure IoC (K : PySem.W.Frag) (o c : String) : Prop where
  ca : PySem.W.findIn K (.ref (cmOf K o)) "__class__" = some (some (.builtin "object.__class__"))
  gn : PySem.W.specialIn K (.builtin "object.__class__") "__get__" = some (some (.builtin "getset_descriptor.__get__"))
  tk : PySem.W.takesIn K (.builtin "object.__class__") = some true
  ob : PySem.W.mroIn K (cmOf K o) (.type "object") = some true
  ki : PySem.W.kitOne K (.ref (cmOf K o)) (.ref (cmOf K c)) = some (obSub o c)
theorem ioB_ok {K : PySem.W.Frag} {o c : String} (h : ioB o c K = true) : IoC K o c := by
  obtain ⟨h1, h⟩ := Bool.and_eq_true_iff.mp h
  obtain ⟨h2, h⟩ := Bool.and_eq_true_iff.mp h
  obtain ⟨h3, h⟩ := Bool.and_eq_true_iff.mp h
  obtain ⟨h4, h5⟩ := Bool.and_eq_true_iff.mp h
  exact ⟨of_decide_eq_true h1, of_decide_eq_true h2, of_decide_eq_true h3, of_decide_eq_true h4, of_decide_eq_true h5⟩
section
variable {X : Cx} {Y : Cy} {a b : Expr} {fa fb : DE} {pos p p2 apos cpos pos' : Pos} {x : Str}
/-- isinstance(x, C), x an object of the program's class o -/
theorem pd_isO {o c : String} (W : IoC X.K o c) (hG : ∀ c, Y.G.cm c = cmOf X.K c) (hc : Y.G.has o) (hg : Gl X "isinstance") (hm : X.mg "isinstance" = none) (ha : PDw X Y a fa) (hg2 : Gl X x) (hm2 : X.mg x = some (.ref (cmOf X.K c))) (hdb : (x == ("__debug__" : Str)) = false := by decide)
    (hs : starEach (a :: [.Name x p2]) X.env = (false, eval a X.env) :: starEach [.Name x p2] X.env := by rfl) (hs2 : starEach (.Name x p2 :: []) X.env = (false, eval (.Name x p2) X.env) :: starEach [] X.env := by rfl)
    (hpl : (backTo pos (starEach [.Name x p2] X.env)).any (·.1) = false := by rfl) : PD X Y (.Call (.Name "isinstance" p) [a, .Name x p2] [] pos) (e1 (oIsO o c) fa) := fun k => by
  refine impPE (pe_callB call_isi hg hm (by decide +kernel) (pa_cons (ha k) (pa_cons (pe_glob (v := .ref (cmOf X.K c)) hg2 hm2 rfl hdb) pa_nil hs2) hs) (he := hs) (hpl := hpl)) fun σ H Q h => ?_
  refine un_imp (r := fun x H1 Q => rIsi X.K [x, .ref (cmOf X.K c)] H1 Q) (fun Z H x dx Q zt rx q => ?_) σ H Q h
  cases e : oIsO o c dx with
  | none => rw [e] at q; exact q.elim
  | some d =>
    rw [e] at q
    obtain ⟨ks, l, rfl, rfl⟩ := oIsO_some e
    obtain ⟨ad, dx, vs, rfl, hx, _⟩ := rx
    have cl := Y.G.cls o hc
    rw [hG] at hx cl
    rw [← k.K] at cl
    exact ⟨_, _, .ref (cmOf X.K o), .ref (cmOf X.K c), _, rfl, .own _, .base (.ins hx cl W.ca W.gn W.tk W.ob), W.ki, q _ H (Same.refl H) rfl⟩
theorem ixN_of {n : Nat} {j : Int} (h : 0 ≤ j ∧ j < n) : ixN n j = some j.toNat := by
  unfold ixN
  simp [h.1, h.2]
/-- x[j] = e, x the def's own list -/
theorem ds_lput {i : Nat} (hN : X.N[i]? = some x) (hb : PDw X Y b fb) (ha : PD X Y a fa) (hv : Vis X.env.scope x := by first | exact Or.inl rfl | exact Or.inr (Or.inl rfl) | exact Or.inr (Or.inr rfl)) (hd : (x == ("__debug__" : Str)) = false := by decide) (hcd : (x == ("__classdict__" : Str)) = false := by decide)
    (hs : swapsWithSole [.Subscript (.Name x p) b pos'] a pos.line X.env = pure false := by rfl) (hw : swappedStores [.Subscript (.Name x p) b pos'] a X.env = pure none := by rfl)
    (hasg : ∀ v, assign (.Subscript (.Name x p) b pos') X.env v = (do
      let ov ← holding [v] (eval (.Name x p) X.env)
      let iv ← holding [v, ov] (eval b X.env)
      standAt pos'
      holding [v, ov, iv] (setItem ov iv v)
      release [v, ov, iv] []) := by intro _; rfl) : PDS X Y (.Assign [.Subscript (.Name x p) b pos'] a pos) (sPutL i fb fa) := fun k => by
  refine impPS (ps_asg (ha k) (pg_sub (pe_var hN hv hd hcd) (hb k) set_list hasg) hs hw) fun N σ H ⟨O, ρ, s, q⟩ => ?_
  unfold sPutL at q
  refine exp_then s q fun d ea q v H1 s1 r1 => ?_
  split at q
  · rename_i l hi
    obtain ⟨pl, hp, Op, rl⟩ := own_at (s.same s1) hi
    obtain ⟨_, vs, e, hl, rv⟩ := rl
    cases e
    refine ⟨.ref pl, hp, expw_then (s.same s1) (SPost.fwd (Stp.same s1) q) fun dk ek q2 u H2 s2 r2 => ?_⟩
    cases dk with
    | int j =>
      simp only at q2
      split at q2
      · rename_i hz
        obtain rfl : u = .int j := r2
        have hl2 := s2 _ _ hl
        refine ⟨pl, vs, j, j.toNat, rfl, rfl, hl2, ixN_of (by rw [← rv.length]; exact hz), ?_⟩
        have s' := ((s.same s1).same s2).write (d' := .lst (l.set j.toNat d)) (o := .lst (vs.set j.toNat v)) hi hp
          ⟨pl, vs.set j.toNat v, rfl, upd_same, RepL.mono (sub_upd Op) (fun _ z => .inl z) (RepL.set _ (rv.same s2) (r1.same s2))⟩
        exact q2 O σ _ ((Stp.same s2).trans (Stp.own Op)) s'
      · exact q2.elim
    | _ => exact q2.elim
  · exact q.elim
end
end Tw

set_option maxHeartbeats 2000000
namespace Tw
open PySem PySem.Spec L2
open PyProof.Rows hiding St
section
variable {Y : Cy} {O : Addr → Prop} {ρ : DEnv} {σ : L2.St} {H H' : Hp} {α : Nat → Addr} {i j : Nat} {f : Str} {d s : D}
/-- a field of the object under construction is stored -/
theorem SRa.mutS {d d' dv : D} {y : V} (s : SRa Y O α ρ σ H) (hi : ρ[i]? = some (some (.slf d))) (ry : RepG Y.G (Zo Y.Ze O) α ρ H dv y) (hp : putF f dv d = some d') :
    ∃ c ks dx vs, f ∈ fldOf c ∧ Y.G.has c ∧ ks.length < 999 ∧ ks.length = vs.length ∧ σ[i]? = some (some (.ref Y.sa)) ∧ O Y.sa ∧ H Y.sa = some (.ins (Y.G.cm c) dx (fKeys ks vs)) ∧
      SRa Y O α (ρ.set i (some (.slf d'))) σ (upd H Y.sa (.ins (Y.G.cm c) dx (L2.putF f y (fKeys ks vs)))) := by
  have hl : i < ρ.length := (List.getElem?_eq_some_iff.mp hi).1
  obtain ⟨ei, ea, c, ks, l, dx, vs, rfl, hH, ⟨hlen, hc, hf⟩, rl⟩ := s.slf i d hi
  have oi : isOwn ρ i := ⟨_, .inr (.inl hi)⟩
  have Oi : O (α i) := (s.oeq _).mpr ⟨i, oi, rfl⟩
  unfold putF at hp
  simp only at hp
  split at hp
  rotate_left
  · cases hp
  rename_i hpk
  cases hp
  rw [ea] at ei Oi hH
  generalize hnew : D.obj c (putDk f ks) (putDv f dv ks l) = d'
  have sub : ∀ j, isOwn (ρ.set i (some (.slf d'))) j ↔ isOwn ρ j := fun j => isOwn_setSlf hi
  have sb : Sub (Zo Y.Ze O) H (upd H Y.sa (.ins (Y.G.cm c) dx (L2.putF f y (fKeys ks vs)))) := fun a u n e => by
    rw [upd_ne fun q => n (.inr (by rw [q]; exact Oi))]
    exact e
  have an : ∀ j, isOwn ρ j → j ≠ i → α j ≠ Y.sa := fun j h n e => n (s.inj j i h oi (e.trans ea.symm))
  have rw' : ∀ {d : D} {p : Addr}, p ≠ Y.sa → RepW Y.G (Zo Y.Ze O) H d (.ref p) → RepW Y.G (Zo Y.Ze O) (upd H Y.sa (.ins (Y.G.cm c) dx (L2.putF f y (fKeys ks vs)))) d (.ref p) := fun {d p} hp r => by
    cases d with
    | lst l => obtain ⟨a, vs, e, t, r⟩ := r; cases e; exact ⟨_, vs, rfl, by rw [upd_ne hp]; exact t, r.mono sb fun _ q => .inl q⟩
    | dct ks l => obtain ⟨a, vs, e, t, k, r⟩ := r; cases e; exact ⟨_, vs, rfl, by rw [upd_ne hp]; exact t, k, r.mono sb fun _ q => .inl q⟩
    | obj c ks l => obtain ⟨a, dx, vs, e, t, k, r⟩ := r; cases e; exact ⟨_, dx, vs, rfl, by rw [upd_ne hp]; exact t, k, r.mono sb fun _ q => .inl q⟩
    | _ => exact Rep.mono sb (fun _ q => .inl q) r
  have g1 : ∀ {d : D} {v : V}, RepG Y.G (Zo Y.Ze O) α ρ H d v → RepG Y.G (Zo Y.Ze O) α (ρ.set i (some (.slf d'))) (upd H Y.sa (.ins (Y.G.cm c) dx (L2.putF f y (fKeys ks vs)))) d v := by
    intro d v h1
    cases d with
    | gst j =>
      obtain ⟨e, d'', kk⟩ := h1
      have hki : j ≠ i := fun e => by subst e; rw [hi] at kk; cases kk
      exact ⟨e, d'', by rw [List.getElem?_set_ne (Ne.symm hki)]; exact kk⟩
    | _ => exact Rep.mono sb (fun _ q => .inl q) h1
  have gl : ∀ {ds : List D} {vs' : List V}, RepGL Y.G (Zo Y.Ze O) α ρ H ds vs' → RepGL Y.G (Zo Y.Ze O) α (ρ.set i (some (.slf d'))) (upd H Y.sa (.ins (Y.G.cm c) dx (L2.putF f y (fKeys ks vs)))) ds vs' := by
    intro ds
    induction ds with
    | nil => intro vs h; exact h
    | cons d ds ih =>
      intro vs h
      obtain ⟨v, r, e, h1, h2⟩ := h
      exact ⟨v, r, e, g1 h1, ih h2⟩
  refine ⟨c, ks, dx, vs, hpk.2, hc, hpk.1, hlen, ei, Oi, hH, by rw [List.length_set]; exact s.len, fun j d'' e => ?_, fun j d'' e => ?_, fun j d'' e => ?_, fun j d'' e => ?_, fun j k hj hk e => s.inj j k ((sub j).mp hj) ((sub k).mp hk) e, fun a => ?_, fun a z q => ?_, fun a z q => ?_, ptrA s.ptr rfl fun _ _ r => r.mono sb fun _ q => .inl q⟩
  · rcases set_at e with ⟨_, q⟩ | ⟨_, q⟩
    · cases q
    · obtain ⟨v, e1, r⟩ := s.val j d'' q
      exact ⟨v, e1, r.mono sb fun _ q => .inl q⟩
  · rcases set_at e with ⟨_, q⟩ | ⟨hj, q⟩
    · cases q
    · obtain ⟨e1, n, r⟩ := s.own j d'' q
      exact ⟨e1, n, rw' (an j ⟨d'', .inl q⟩ hj) r⟩
  · rcases set_at e with ⟨ej, q⟩ | ⟨hj, q⟩
    · cases q
      subst ej
      refine ⟨by rw [ei, ea], ea, c, _, _, dx, putVv f y ks vs, hnew.symm, ?_, ⟨putVv_len hlen, hc, fun g hg => (putDk_mem hg).elim (fun e => by rw [e]; exact hpk.2) (hf g)⟩, repGL_put (g1 ry) hlen (gl rl)⟩
      rw [ea, upd_same, putF_k hlen]
    · obtain ⟨e1, n, c, ks, l, dx, vs, e2, e3, e4, r⟩ := s.slf j d'' q
      exact absurd n (an j ⟨d'', .inr (.inl q)⟩ hj)
  · rcases set_at e with ⟨_, q⟩ | ⟨hj, q⟩
    · cases q
    · obtain ⟨r, k⟩ := s.gho j d'' q
      exact ⟨rw' (an j ⟨d'', .inr (.inr q)⟩ hj) r, k⟩
  · rw [s.oeq]
    exact ⟨fun ⟨j, k, e⟩ => ⟨j, (sub j).mpr k, e⟩, fun ⟨j, k, e⟩ => ⟨j, (sub j).mp k, e⟩⟩
  · by_cases h : a = Y.sa
    · subst h; rw [upd_same] at q; cases q
    · rw [upd_ne h] at q; exact s.zt a z q
  · by_cases h : a = Y.sa
    · subst h; rw [upd_same] at q; cases q
    · rw [upd_ne h] at q; exact s.ot a z q
end
end Tw

set_option maxHeartbeats 2000000
namespace Tw
open PySem PySem.Spec L2
open PyProof.Rows hiding St
section
variable {X : Cx} {Y : Cy} {a b e o tg : Expr} {fa fb : DE} {pos pos' p p2 apos cpos : Pos} {x f : Str} {i j : Nat}
theorem SR.sa_of {O : Addr → Prop} {ρ : DEnv} {σ : L2.St} {H : Hp} {s : D} (sr : SR Y O ρ σ H) (hs : ρ[i]? = some (some (.slf s))) : σ[i]? = some (some (.ref Y.sa)) ∧ O Y.sa := by
  obtain ⟨α, sr⟩ := sr
  obtain ⟨e1, e2, _⟩ := sr.slf i s hs
  exact ⟨by rw [← e2]; exact e1, (sr.oeq _).mpr ⟨i, ⟨s, .inr (.inl hs)⟩, e2⟩⟩
end
end Tw

set_option maxHeartbeats 2000000
namespace Tw
open PySem PySem.Spec L2
open PyProof.Rows hiding St
theorem map_none_get {ρ : DEnv} {k : Nat} {x : Slot} (h : (ρ.map fun _ => (none : Option Slot))[k]? = some (some x)) : False := by
  rw [List.getElem?_map] at h
  obtain ⟨_, _, e⟩ := Option.map_eq_some_iff.mp h
  cases e
theorem SR.wiped {Y : Cy} {O : Addr → Prop} {ρ : DEnv} {σ : L2.St} {H H' : Hp} {α : Nat → Addr} (s : SRa Y O α ρ σ H) (hz : ∀ b, H b ≠ none → H' b ≠ none) : SR Y (fun _ => False) (ρ.map fun _ => none) σ H' :=
  ⟨α, ⟨⟨s.len.1, by rw [List.length_map]; exact s.len.2⟩, fun i d e => (map_none_get e).elim, fun i d e => (map_none_get e).elim, fun i d e => (map_none_get e).elim, fun i d e => (map_none_get e).elim,
    fun i j ⟨d, h⟩ => by rcases h with h | h | h <;> exact (map_none_get h).elim, fun a => ⟨False.elim, fun ⟨i, ⟨d, h⟩, _⟩ => by rcases h with h | h | h <;> exact (map_none_get h).elim⟩, fun a z => hz a (s.zt a z), fun a h => h.elim, PtrOk.no fun i x e _ => (map_none_get e).elim⟩⟩
end Tw

set_option maxHeartbeats 2000000
namespace Tw
open PySem PySem.Spec L2
open PyProof.Rows hiding St
end Tw

set_option maxHeartbeats 2000000
namespace Tw
open PySem PySem.Spec L2
open PyProof.Rows hiding St
section
variable {X : Cx} {Y : Cy} {e : Expr} {es : List Expr} {fs : DA} {pos pos' p p2 apos cpos pc : Pos} {x m xc : Str} {i j : Nat} {c : String} {init : D → List D → R (D × D)} {den : List D → R D}
/-- the object under construction behind another def's changes -/
theorem SRa.reS {O : Addr → Prop} {ρ : DEnv} {σ : L2.St} {H H' : Hp} {α : Nat → Addr} {d d' : D} (s : SRa Y O α ρ σ H) (hi : ρ[i]? = some (some (.slf d))) (sm : ∀ b o, b ≠ Y.sa → H b = some o → H' b = some o) (ob : ObjAt Y.G (Zo Y.Ze O) H' Y.sa d') :
    SRa Y O α (ρ.set i (some (.slf d'))) σ H' := by
  have hl : i < ρ.length := (List.getElem?_eq_some_iff.mp hi).1
  obtain ⟨ei, ea, _⟩ := s.slf i d hi
  have oi : isOwn ρ i := ⟨_, .inr (.inl hi)⟩
  have Oi : O (α i) := (s.oeq _).mpr ⟨i, oi, rfl⟩
  have sub : ∀ j, isOwn (ρ.set i (some (.slf d'))) j ↔ isOwn ρ j := fun j => isOwn_setSlf hi
  have sb : Sub (Zo Y.Ze O) H H' := fun a u n e => sm a u (fun q => n (.inr (by rw [q, ← ea]; exact Oi))) e
  have an : ∀ j, isOwn ρ j → j ≠ i → α j ≠ Y.sa := fun j h n e => n (s.inj j i h oi (e.trans ea.symm))
  have st : ∀ b, H b ≠ none → H' b ≠ none := fun b hb => by
    by_cases h : b = Y.sa
    · subst h
      obtain ⟨c, ks, l, dx, vs, _, e2, _⟩ := ob
      rw [e2]
      exact fun z => by cases z
    · obtain ⟨o, ho⟩ := Option.ne_none_iff_exists'.mp hb
      rw [sm b o h ho]
      exact fun z => by cases z
  have gl : ∀ {l : List D} {vs : List V}, RepL Y.G (Zo Y.Ze O) H' l vs → RepGL Y.G (Zo Y.Ze O) α (ρ.set i (some (.slf d'))) H' l vs := by
    intro l
    induction l with
    | nil => intro vs h; exact h
    | cons d l ih =>
      intro vs h
      obtain ⟨v, r, e, h1, h2⟩ := h
      exact ⟨v, r, e, RepG.of h1, ih h2⟩
  refine ⟨by rw [List.length_set]; exact s.len, fun j d'' e => ?_, fun j d'' e => ?_, fun j d'' e => ?_, fun j d'' e => ?_, fun j k hj hk e => s.inj j k ((sub j).mp hj) ((sub k).mp hk) e, fun a => ?_, fun a z => st a (s.zt a z), fun a z => st a (s.ot a z), ptrA s.ptr rfl fun _ _ r => r.mono sb fun _ q => .inl q⟩
  · rcases set_at e with ⟨_, q⟩ | ⟨_, q⟩
    · cases q
    · obtain ⟨v, e1, r⟩ := s.val j d'' q
      exact ⟨v, e1, r.mono sb fun _ q => .inl q⟩
  · rcases set_at e with ⟨_, q⟩ | ⟨hj, q⟩
    · cases q
    · obtain ⟨e1, n, r⟩ := s.own j d'' q
      exact ⟨e1, n, RepW.sub sb (fun _ q => .inl q) (fun o => sm _ o (an j ⟨d'', .inl q⟩ hj)) r⟩
  · rcases set_at e with ⟨rfl, q⟩ | ⟨hj, q⟩
    · cases q
      obtain ⟨c, ks, l, dx, vs, e1, e2, e3, e4⟩ := ob
      exact ⟨ei, ea, c, ks, l, dx, vs, e1, by rw [ea]; exact e2, e3, gl e4⟩
    · obtain ⟨e1, n, _⟩ := s.slf j d'' q
      exact absurd n (an j ⟨d'', .inr (.inl q)⟩ hj)
  · rcases set_at e with ⟨_, q⟩ | ⟨hj, q⟩
    · cases q
    · obtain ⟨r, k⟩ := s.gho j d'' q
      exact ⟨RepW.sub sb (fun _ q => .inl q) (fun o => sm _ o (an j ⟨d'', .inr (.inr q)⟩ hj)) r, k⟩
  · rw [s.oeq]
    exact ⟨fun ⟨j, k, e⟩ => ⟨j, (sub j).mpr k, e⟩, fun ⟨j, k, e⟩ => ⟨j, (sub j).mp k, e⟩⟩
/-- C.__init__(self, ..) -/
theorem ds_init {pl : Sem Bool} {C g : Addr} {fd : FuncData} {ps : List Str} (hg : Gl X xc) (hmc : X.mg xc = some (.ref C)) (r : CFn X.K C m g) (F : FnOk X.prog X.w X.K X.mg X.base (L2.CX X.prog X.w) j g fd ps (dspM Y.G init)) (hb : Binds X.K fd ps []) (hj : j ≤ Y.lv) (hN : X.N[i]? = some x) (ha : PDA X Y es fs)
    (hv : Vis X.env.scope x := by first | exact Or.inl rfl | exact Or.inr (Or.inl rfl) | exact Or.inr (Or.inr rfl)) (hd : (x == ("__debug__" : Str)) = false := by decide) (hcd : (x == ("__classdict__" : Str)) = false := by decide)
    (hdb : (xc == ("__debug__" : Str)) = false := by decide) (hst : starEach (.Name x p2 :: es) X.env = (false, eval (.Name x p2) X.env) :: starEach es X.env := by rfl) (hpl : (backTo cpos (starEach es X.env)).any (·.1) = false := by rfl)
    (ht : eval (.Call (.Attribute (.Name xc pc) m apos) (.Name x p2 :: es) [] cpos) X.env = (do
      let ov ← eval (.Name xc pc) X.env
      standAt apos.atName
      let (f, first) ← holding [ov] (getMethod ov m pl)
      callWith cpos f first (backTo cpos (starEach (.Name x p2 :: es) X.env)) (backToKw cpos (keywordEach [] X.env))) := by rfl)
    (hsw : swapsWith (.Call (.Attribute (.Name xc pc) m apos) (.Name x p2 :: es) [] cpos) none pos.line X.env = pure false := by rfl) (hca : Y.ca = true := by rfl) :
    PDS X Y (.Expr (.Call (.Attribute (.Name xc pc) m apos) (.Name x p2 :: es) [] cpos) pos) (sInitC i init fs) := fun k => by
  refine impPS (ps_expr (pe_cfn (E := WE Y.E) hg hmc r F ((k.room hca).mono hj) hb (fun σ => passAt k.tk σ) (pa_cons (pe_var hN hv hd hcd) (ha k) hst) hdb hst hpl ht) hsw) fun N σ H ⟨O, ρ, s, q⟩ => ?_
  unfold sInitC at q
  split at q
  rotate_left
  · exact q.elim
  rename_i c ks l hs
  obtain ⟨e1, Oa⟩ := s.sa_of hs
  have s0 := s
  obtain ⟨α, s⟩ := s
  refine ⟨.ref Y.sa, e1, O, ρ, s0, ?_⟩
  cases ef : fs ρ with
  | no => rw [ef] at q; exact q.elim
  | ex z => rw [ef] at q; exact fun c od H1 s1 xr => q O σ H1 c od (Stp.same s1) (s0.same s1) xr
  | ok ds =>
    rw [ef] at q
    simp only [R.st_ok] at q
    split at q
    rotate_left
    · exact q.elim
    rename_i hng
    intro us H1 s1 rs
    have s2 := s.same s1
    obtain ⟨_, ea, c2, ks2, l2, dx, vs, es', hH, hlen, rl⟩ := s2.slf i _ hs
    cases es'
    rw [ea] at hH
    refine ⟨Zo Y.Ze O, Y.sa, _, us, ds, rfl, .inr Oa, (s0.same s1).zt, ⟨c, ks, l, dx, vs, rfl, hH, hlen, RepGL.plain hng rl⟩, rs, ?_⟩
    have q := SPost.fwd (Stp.same s1) q
    cases ei : init (.obj c ks l) ds with
    | no => rw [ei] at q; exact q.elim
    | ex z =>
      rw [ei] at q
      intro cc od H' sm ha xr
      have st : ∀ b, H1 b ≠ none → H' b ≠ none := fun b hb => by
        by_cases h : b = Y.sa
        · subst h; exact ha
        · obtain ⟨o, ho⟩ := Option.ne_none_iff_exists'.mp hb
          rw [sm b o h ho]
          exact fun z => by cases z
      exact q (fun _ => False) σ H' cc od ⟨fun b o n e => sm b o (fun z => n (z ▸ Oa)) e, fun b z => z.elim⟩ (SR.wiped s2 st) (ExRep.weak (fun b z => z.elim .inl False.elim) xr)
    | ok pr =>
      rw [ei] at q
      intro v H' sm ob rv
      exact q O σ H' ⟨fun b o n e => sm b o (fun z => n (z ▸ Oa)) e, fun b z => .inl z⟩ ⟨α, s2.reS hs sm ob⟩
end
end Tw

set_option maxHeartbeats 2000000
namespace Tw
open PySem PySem.Spec L2
open PyProof.Rows hiding St
theorem emB_ok {K : PySem.W.Frag} {p : PySem.W.Frag → Addr} (h : emB p K = true) : KTup K (p K) [] := by
  unfold emB at h
  split at h
  · rename_i t d its n sl e
    obtain ⟨h1, h2⟩ := Bool.and_eq_true_iff.mp h
    have e1 : t = "tuple" := beq_iff_eq.mp h1
    have e2 : its = #[] := by simpa using h2
    subst e1 e2
    exact ⟨_, #[], n, e, rfl, rfl, by simp, .nil⟩
  · cases h
theorem em_rep {G : Gc} {Z : Addr → Prop} {H : Hp} {a : Addr} (h : KTup G.K a []) : Rep G Z H (.tup []) (.ref a) := ⟨a, [], rfl, .inr h, rfl⟩
/-- C(..): the written arguments, then the defaults -/
def CkD (P : Program) (w : World) (K : PySem.W.Frag) (mg : Str → Option Value) (base : Heap) (G : Gc) (x : Str) (c : String) (dD : List D) (init : D → List D → R (D × D)) (j : Nat) : Prop :=
  ∃ (f : Addr) (fd : FuncData) (ps : List Str) (dvs : List V) (ds : List Value), FnOk P w K mg base (L2.CX P w) j f fd ps (dspM G init) ∧ Mk K (G.cm c) f ∧ mg x = some (.ref (G.cm c)) ∧ Binds K fd ps ds ∧ Vals dvs ds ∧ G.has c ∧ ∀ Z H, RepL G Z H dD dvs
section
variable {X : Cx} {CX : CXT} {k : Nat} {f C : Addr} {fd : FuncData} {ps : List Str} {sp : Sp} {dvs : List V} {ds : List Value} {E : L2.St → XK} {x : Str} {p pos : Pos} {e : Expr} {es : List Expr} {t : TA}
def tMakeDD (C : Addr) (sp : Sp) (dvs : List V) (E : L2.St → XK) (t : TA) : TE := fun σ H Q => t σ H fun vs H1 => ∀ x dx, H1 x = none → H1 dx = none → dx ≠ x →
  sp (.ref x :: (vs ++ dvs)) (upd (upd H1 dx (.own x)) x (.ins C dx [])) (fun v H2 => v = .non ∧ Q (.ref x) H2) (E σ)
theorem run_makeDD {pins : List (Addr × Obj)} {σ : L2.St} {H : Hp} {s : Shared} {Q : VK} {us : List Value} {vs : List V} (M : Mk X.K C f) (F : FnOk X.prog X.w X.K X.mg X.base CX k f fd ps sp) (hr : Room (k + 1) X.A) (hb : Binds X.K fd ps ds) (hd : Vals dvs ds)
    (hx : PassesAt CX X σ (E σ)) (I : Inv X pins σ H s) (r : Vals vs us)
    (h : ∀ x dx, H x = none → H dx = none → dx ≠ x → sp (.ref x :: (vs ++ dvs)) (upd (upd H dx (.own x)) x (.ins C dx [])) (fun v H2 => v = .non ∧ Q (.ref x) H2) (E σ)) :
    wpAny (model X.prog X.w) X.A (call (.ref C) us) (EP X pins σ Q) X.xe s := by
  have hq := h (s.heap.objs.size + 1) s.heap.objs.size (I.hok.fresh (Nat.le_succ _)) (I.hok.fresh (Nat.le_refl _)) (Nat.ne_of_lt (Nat.lt_succ_self _))
  have I2 := Inv.made (C := C) I
  have r2 : Vals (V.ref (s.heap.objs.size + 1) :: (vs ++ dvs)) (Value.ref (s.heap.objs.size + 1) :: us ++ ds) := .cons rfl (r.append hd)
  have hl : (Value.ref (s.heap.objs.size + 1) :: us ++ ds).length = ps.length := by
    rw [← r2.length]
    exact F.len _ _ _ _ hq
  have hb' := hb _ (Value.ref (s.heap.objs.size + 1) :: us) I2.kIn hl
  refine wpAny_call (make_map (f := f) I.kIn M.makes M.init (beq_iff_eq.mp M.fn) (codeAny_mono (F.run _ X.stack _ _ ⟨Value.ref (s.heap.objs.size + 1) :: us, []⟩ _ _ _ (E σ) (hr.make C us [])
    (I2.env0.make C us []) hb' r2 hq) fun r s' hq' => ?_))
  cases r with
  | error e => exact hx pins _ _ e s' I2 hq'
  | ok fl =>
    cases fl with
    | ret u =>
      obtain ⟨v, H', I3, rv, ev, q3⟩ := I2.after hq'
      subst ev
      exact ⟨rv, ⟨V.ref (s.heap.objs.size + 1), H', I3, rfl, q3⟩⟩
    | next => exact False.elim hq'
    | brk => exact False.elim hq'
    | cont => exact False.elim hq'
theorem pe_makeDD (M : Mk X.K C f) (F : FnOk X.prog X.w X.K X.mg X.base CX k f fd ps sp) (hr : Room (k + 1) X.A) (hg : Gl X x) (hm : X.mg x = some (.ref C)) (hb : Binds X.K fd ps ds) (hd : Vals dvs ds) (hx : ∀ σ, PassesAt CX X σ (E σ))
    (ha : PA X (e :: es) t) (hdb : (x == ("__debug__" : Str)) = false := by decide) (he : starEach (e :: es) X.env = (false, eval e X.env) :: starEach es X.env := by rfl) (hpl : (backTo pos (starEach es X.env)).any (·.1) = false := by rfl) :
    PE X (.Call (.Name x p) (e :: es) [] pos) (tMakeDD C sp dvs E t) := by
  refine ⟨fun pins s σ H Q I h => ?_⟩
  refine wpAny_Call_Name_kw (ld_glob I hg hm ?_ hdb)
  refine PySem.W.callWith_K (h₀ := X.base) I.ok.mod.kin M.kp (thn (ha.run pos pins s σ H _ I h) fun us s1 hh => ?_) he hpl
  obtain ⟨vs, H1, I1, r, q⟩ := hh
  exact ⟨I1.kIn, run_makeDD M F hr hb hd (hx σ) I1 r q⟩
end
section
variable {X : Cx} {Y : Cy} {e : Expr} {es : List Expr} {fs : DA} {pos p : Pos} {x : Str} {init : D → List D → R (D × D)} {dD : List D} {j : Nat}
theorem makeDD_imp {cn : String} {t : TA} {dvs : List V} (hc : Y.G.has cn) (hd : ∀ Z H, RepL Y.G Z H dD dvs) (σ : L2.St) (H : Hp) (Q : VK) (ht : ∀ σ H Q, tDA Y fs σ H Q → t σ H Q) (h : tD Y (eCall (fun xs => mkD cn init (xs ++ dD)) fs) σ H Q) : tMakeDD (Y.G.cm cn) (dspM Y.G init) dvs (WE Y.E) t σ H Q := by
  obtain ⟨O, ρ, s, q⟩ := h
  refine ht σ H _ ⟨O, ρ, s, ?_⟩
  unfold eCall at q
  cases ea : fs ρ with
  | ex e => rw [ea] at q; exact q
  | no => rw [ea] at q; exact q
  | ok ds =>
    rw [ea] at q
    intro vs H1 s1 rs x dx hx hd' ne
    exact make_of hc (s.same s1) (rs.append (hd _ _)) (EPost.fwd s1 q) x dx hx hd' ne
theorem pd_makeDD {cn : String} (M : CkD X.prog X.w X.K X.mg X.base Y.G x cn dD init j) (hj : j + 1 ≤ Y.lv) (hg : Gl X x) (ha : PDA X Y (e :: es) fs) (hdb : (x == ("__debug__" : Str)) = false := by decide) (he : starEach (e :: es) X.env = (false, eval e X.env) :: starEach es X.env := by rfl)
    (hpl : (backTo pos (starEach es X.env)).any (·.1) = false := by rfl) (hca : Y.ca = true := by rfl) : PD X Y (.Call (.Name x p) (e :: es) [] pos) (eCall (fun xs => mkD cn init (xs ++ dD)) fs) := fun k => by
  obtain ⟨f, fd, ps, dvs, ds, F, hk, hm, hb, hv, hc, hd⟩ := M
  exact impPE (pe_makeDD (E := WE Y.E) hk F ((k.room hca).mono hj) hg hm hb hv (fun σ => passAt k.tk σ) (ha k) hdb he hpl) fun σ H Q h => makeDD_imp hc hd σ H Q (fun _ _ _ q => q) h
end
end Tw

set_option maxHeartbeats 2000000
namespace Tw
open PySem PySem.Spec L2
open PyProof.Rows hiding St
section
variable {X : Cx} {Y : Cy} {tg iter elt : Expr} {ifs : List Expr} {scope : Scope} {own : List (Str × Nat)} {is : List Nat} {fi : DI} {g : DG} {c : DT} {e : DE} {pos : Pos}
/-- x = [.. for ..], x the def's own list -/
theorem ds_compO {i : Nat} {y : Str} {py spos : Pos} (hy : X.N[i]? = some y) (hn : i < Y.n) (hyl : X.env.scope.names.lookup y = some .local) (hsw : swapsWith (.ListComp elt [⟨tg, iter, ifs, 0⟩] scope pos) (some (.Name y py)) spos.line X.env = pure true)
    (hi : PDIw X Y tg iter fi) (ok : BlkOk X.N X.env.scope scope own) (hk : ∀ i ∈ is, i ∈ own.map (·.2))
    (hg : ∀ (Ze : Addr → Prop) (s : Shared) (H : Hp) (C : Addr) (cl : List (Str × Addr)) (fp : List Addr), PDG (X.blk s H scope (compEnvC scope cl C X.env) fp) (Y.blk Ze) is tg g)
    (ht : ∀ (Ze : Addr → Prop) (s : Shared) (H : Hp) (C : Addr) (cl : List (Str × Addr)) (fp : List Addr), PDTs (X.blk s H scope (compEnvC scope cl C X.env) fp) (Y.blk Ze) ifs c)
    (he : ∀ (Ze : Addr → Prop) (s : Shared) (H : Hp) (C : Addr) (cl : List (Str × Addr)) (fp : List Addr), PD (X.blk s H scope (compEnvC scope cl C X.env) fp) (Y.blk Ze) elt e)
    (hs : ∀ x, foldedSetIterable iter X.env x = pure x := by intro _; rfl) (hca : Y.ca = true := by rfl) : PDS X Y (.Assign [.Name y py] (.ListComp elt [⟨tg, iter, ifs, 0⟩] scope pos) spos) (sOwn i (eComp fi (own.map (·.2)) g c e)) := fun k => by
  refine impPS (ps_setLc (k.calm hca) k.nd hy hyl hsw (hi k) ok (fun s H C cl fp => PG.xall fun Ze => hg Ze s H C cl fp (k.blk s H scope _ fp Ze)) (fun s H C cl fp => PTs.xall fun Ze => ht Ze s H C cl fp (k.blk s H scope _ fp Ze)) (fun s H C cl fp => PE.xall fun Ze => he Ze s H C cl fp (k.blk s H scope _ fp Ze)) hs) fun N σ H ⟨O, ρ, s, q⟩ => ?_
  unfold sOwn eComp at q
  refine comp_imp hk σ H O ρ s (fun e' ee => by rw [ee] at q; exact fun c od H' s' xr => q O σ H' c od (Stp.same s') (s.same s') xr) ?_
  cases ea : fi ρ with
  | no => rw [ea] at q; exact q.elim
  | ex e' => exact ⟨[], [], .inr ⟨e', rfl⟩⟩
  | ok l =>
    rw [ea] at q
    simp only [R.bind_ok] at q
    split at q
    · rename_i hl
      cases ec : compL g c e (wipD (own.map (·.2)) ρ) l with
      | no => rw [ec] at q; exact q.elim
      | ex e' => exact (compL_ex ec).elim
      | ok ys =>
        rw [ec] at q
        refine ⟨l, ys, .inl ⟨rfl, hl.1, hl.2, ec, fun D H' us s1 h0 h1 r => ?_⟩⟩
        simp only [R.bind_ok, R.st_ok] at q
        cases es : setO i (.lst ys) ρ with
        | no => rw [es] at q; exact q.elim
        | ex e => exact (setO_no es).elim
        | ok ρ' =>
          rw [es] at q
          obtain ⟨O', st, s'⟩ := s.seto es hn s1 h0 (by rw [h1]; exact fun z => by cases z) ⟨D, us, rfl, h1, r⟩
          exact q O' _ H' st s'
    · exact q.elim
end
end Tw

set_option maxHeartbeats 2000000
namespace Tw
open PySem PySem.Spec L2
open PyProof.Rows hiding St
section
variable {K : PySem.W.Frag} {x qual : Str} {params : Arguments} {body : List Stmt} {scope : Scope} {dv : V} {kws : List (Str × V)} {f : Addr} {fd : FuncData} {ps : List Str}
theorem bindsW (F : FunD K x qual params body scope [dv] kws f fd)
    (h : ∀ (T : Addr) (kV doc pm : Value) (an : Option Addr) (cdv ct : Value) (us its : List Value), us.length = ps.length → its.length = 1 →
      ∃ k, bindArgs (PySem.W.fnOf x qual params body scope (.ref T) kV doc pm an cdv ct) ⟨us, []⟩ = seqItems? (.ref T) >>= k ∧ k (some its.toArray) = pure (ps.zip us)) : Binds K fd ps [] := by
  obtain ⟨ds, hv, hb⟩ := F.binds1 (ps := ps) ps.length 1 (by exact fun q => by cases q) rfl fun T kV doc pm an cdv ct us its h1 h2 => by
    obtain ⟨k, e1, e2⟩ := h T kV doc pm an cdv ct us its h1 h2
    refine ⟨k, e1, ?_⟩
    rw [e2, List.drop_of_length_le (by rw [h2]; exact Nat.le_refl 1), List.append_nil]
  cases hv
  exact hb
theorem cons0 {n : Nat} {ks : List Str} {g : List Value → List Value → List Value} {m : List V} (h : KBn K fd ps n ks g (fun vs zs => vs ++ (zs ++ m))) :
    KBn K fd ps n ks g (fun vs zs => match vs with | v :: r => v :: (fun r zs => r ++ (zs ++ m)) r zs | [] => (fun r zs => r ++ (zs ++ m)) [] zs) := by
  have e : (fun vs zs => vs ++ (zs ++ m)) = (fun vs zs => match vs with | v :: r => v :: (fun r zs => r ++ (zs ++ m)) r zs | [] => (fun r zs => r ++ (zs ++ m)) [] zs) := by
    funext vs zs
    cases vs <;> rfl
  rw [← e]
  exact h
end
end Tw

set_option maxHeartbeats 0
namespace Tw
open PySem PySem.Spec PyProof.Rows L2
theorem obT_eq (s : PySem.W.SharedT) : obT s = hkT.obs s.abs := obsXG_eq (HandSHeadRun.getT_eq s)
end Tw

set_option maxHeartbeats 2000000
namespace Tw
open PySem PySem.Spec L2
open PyProof.Rows hiding St
/-- all but D stands -/
def SameX (D : Addr) (H H' : Hp) : Prop := ∀ b o, b ≠ D → H b = some o → H' b = some o
theorem SameX.trans {D : Addr} {H H1 H2 : Hp} (a : SameX D H H1) (b : SameX D H1 H2) : SameX D H H2 := fun c o n h => b c o n (a c o n h)
theorem Same.x {D : Addr} {H H' : Hp} (s : Same H H') : SameX D H H' := fun b o _ h => s b o h
theorem SameX.sub {D : Addr} {H H' : Hp} {Z : Addr → Prop} (s : SameX D H H') (z : Z D) : Sub Z H H' := fun b o n h => s b o (fun e => n (e ▸ z)) h
section
variable {Y : Cy} {O : Addr → Prop} {ρ : DEnv} {σ : L2.St} {H H' : Hp} {α : Nat → Addr} {p0 : Addr}
theorem RepW.off {G : Gc} {Z : Addr → Prop} {d : D} {a : Addr} (s : SameX p0 H H') (z : Z p0) (ha : a ≠ p0) (h : RepW G Z H d (.ref a)) : RepW G Z H' d (.ref a) := by
  have sb := s.sub z
  cases d with
  | lst l => obtain ⟨b, vs, e, t, r⟩ := h; cases e; exact ⟨a, vs, rfl, s _ _ ha t, RepL.mono sb (fun _ z => .inl z) r⟩
  | dct ks l => obtain ⟨b, vs, e, t, k, r⟩ := h; cases e; exact ⟨a, vs, rfl, s _ _ ha t, k, RepL.mono sb (fun _ z => .inl z) r⟩
  | obj c ks l => obtain ⟨b, dx, vs, e, t, k, r⟩ := h; cases e; exact ⟨a, dx, vs, rfl, s _ _ ha t, k, RepL.mono sb (fun _ z => .inl z) r⟩
  | _ => exact Rep.mono sb (fun _ z => .inl z) h
theorem RepG.off (s : SameX p0 H H') {Z : Addr → Prop} (z : Z p0) {G : Gc} {d : D} {v : V} (h : RepG G Z α ρ H d v) : RepG G Z α ρ H' d v := by
  cases d with
  | gst j => exact h
  | _ => exact Rep.mono (s.sub z) (fun _ z => .inl z) h
theorem RepGL.off (s : SameX p0 H H') {Z : Addr → Prop} (z : Z p0) {G : Gc} : ∀ {ds : List D} {vs : List V}, RepGL G Z α ρ H ds vs → RepGL G Z α ρ H' ds vs
  | [], vs, h => h
  | d :: ds, vs, h => by
    obtain ⟨v, r, e, h1, h2⟩ := h
    exact ⟨v, r, e, RepG.off s z h1, RepGL.off s z h2⟩
theorem SR.off (h : SR Y O ρ σ H) (s : SameX p0 H H') (z : Y.Ze p0) (nO : ¬ O p0) (hD : H' p0 ≠ none) : SR Y O ρ σ H' := by
  obtain ⟨α, h⟩ := h
  have zo : Zo Y.Ze O p0 := .inl z
  have own : ∀ i, isOwn ρ i → α i ≠ p0 := fun i hi e => nO (e ▸ (h.oeq _).mpr ⟨i, hi, rfl⟩)
  have fr : ∀ a, H a ≠ none → H' a ≠ none := fun a n => by
    by_cases e : a = p0
    · rw [e]; exact hD
    · obtain ⟨o, ho⟩ := Option.ne_none_iff_exists'.mp n
      rw [s a o e ho]; exact fun z => by cases z
  refine ⟨α, h.len, fun i d e => ?_, fun i d e => ?_, fun i d e => ?_, fun i d e => ?_, h.inj, h.oeq, fun a z => fr a (h.zt a z), fun a z => fr a (h.ot a z), h.ptr.m fun _ _ r => r.mono (s.sub zo) (fun _ z => .inl z)⟩
  · obtain ⟨v, e1, r⟩ := h.val i d e
    exact ⟨v, e1, r.mono (s.sub zo) (fun _ z => .inl z)⟩
  · obtain ⟨e1, n, r⟩ := h.own i d e
    exact ⟨e1, n, r.off s zo (own i ⟨d, .inl e⟩)⟩
  · obtain ⟨e1, n, c, ks, l, dx, vs, e2, e3, e4, r⟩ := h.slf i d e
    exact ⟨e1, n, c, ks, l, dx, vs, e2, s _ _ (own i ⟨d, .inr (.inl e)⟩) e3, e4, RepGL.off s zo r⟩
  · obtain ⟨r, k⟩ := h.gho i d e
    exact ⟨r.off s zo (own i ⟨d, .inr (.inr e)⟩), k⟩
end
end Tw

set_option maxHeartbeats 400000
namespace Tw
open PySem PySem.Spec L2
open PyProof.Rows hiding St
def difH : D → D → Bool
  | .obj _ ks _, .obj _ ks' _ => !(ks.length == ks'.length)
  | _, _ => false
def difL : List D → List D → Bool
  | a :: l, b :: k => !(l.length == k.length) || difH a b
  | [], [] => false
  | _, _ => true
mutual
def sepD (Ls : List (List D)) : D → Bool
  | .lst l => Ls.all (difL l) && sepDs Ls l
  | .dct _ l => sepDs Ls l
  | .scr _ => false
  | .gst _ => false
  | .tup l => sepDs Ls l
  | .obj _ _ l => sepDs Ls l
  | _ => true
def sepDs (Ls : List (List D)) : List D → Bool
  | [] => true
  | d :: l => sepD Ls d && sepDs Ls l
end
theorem difH_ne {G : Gc} {Z Z0 : Addr → Prop} {H : Hp} {a b : D} {v : V} (h : Rep G Z H a v) (k : Rep G Z0 H b v) (d : difH a b = true) : False := by
  cases a <;> cases b <;> first | (cases d; done) | skip
  rename_i c ks l c' ks' l'
  obtain ⟨p, dx, vs, e, _, t, ⟨n, _⟩, _⟩ := h
  obtain ⟨p', dx', vs', e', _, t', ⟨n', _⟩, _⟩ := k
  rw [e] at e'
  cases e'
  rw [t] at t'
  have fl : ∀ (ks : List Str) (vs : List V), ks.length = vs.length → (fKeys ks vs).length = ks.length := by
    intro ks
    induction ks with
    | nil => intro vs _; cases vs <;> rfl
    | cons k ks ih =>
      intro vs h
      cases vs with
      | nil => cases h
      | cons v vs => show (fKeys ks vs).length + 1 = _; rw [ih vs (by simpa using h)]; rfl
  have e1 := fl ks vs n
  have e2 := fl ks' vs' n'
  have t2 := Option.some.inj t'
  injection t2 with _ _ t3
  rw [t3] at e1
  have : ks.length = ks'.length := e1.symm.trans e2
  simp [difH, this] at d
theorem difL_ne {G : Gc} {Z Z0 : Addr → Prop} {H : Hp} {l k : List D} {vs : List V} (h : RepL G Z H l vs) (q : RepL G Z0 H k vs) (d : difL l k = true) : False := by
  have e : l.length = k.length := h.length.trans q.length.symm
  cases l with
  | nil =>
    cases k with
    | nil => cases d
    | cons b k => cases e
  | cons a l =>
    cases k with
    | nil => cases e
    | cons b k =>
      have e : l.length = k.length := by simpa using e
      obtain ⟨v, r, ev, h1, _⟩ := h
      obtain ⟨v', r', ev', h1', _⟩ := q
      rw [ev] at ev'
      cases ev'
      simp [difL, e] at d
      exact difH_ne h1 h1' d
mutual
theorem Rep.sep {G : Gc} {Z Z' : Addr → Prop} {H : Hp} {Ls : List (List D)} (z : ∀ a, Z' a → Z a ∨ ∃ l ∈ Ls, ∃ Z0 vs, H a = some (.lst vs) ∧ RepL G Z0 H l vs) : ∀ {d : D} {v : V}, sepD Ls d = true → Rep G Z H d v → Rep G Z' H d v
  | .non, v, _, h => h
  | .bl b, v, _, h => h
  | .int i, v, _, h => h
  | .str x, v, _, h => h
  | .cls n, v, _, h => h
  | .gst j, v, n, h => by cases n
  | .scr ns, v, n, h => by cases n
  | .lst l, v, n, h => by
    have n' : (Ls.all (difL l) && sepDs Ls l) = true := by unfold sepD at n; exact n
    obtain ⟨n1, n2⟩ := Bool.and_eq_true_iff.mp n'
    obtain ⟨a, vs, e, nz, t, r⟩ := h
    refine ⟨a, vs, e, fun q => (z a q).elim nz fun ⟨k, hk, Z0, us, t2, r2⟩ => ?_, t, RepL.sep z n2 r⟩
    rw [t] at t2
    cases t2
    exact difL_ne r r2 (List.all_eq_true.mp n1 k hk)
  | .dct ks l, v, n, h => by
    obtain ⟨a, vs, e, nz, t, k, r⟩ := h
    exact ⟨a, vs, e, fun q => (z a q).elim nz fun ⟨_, _, _, us, t2, _⟩ => (by rw [t] at t2; cases t2), t, k, RepL.sep z (by simpa [sepD] using n) r⟩
  | .tup l, v, n, h => by
    obtain ⟨a, vs, e, t, r⟩ := h
    refine ⟨a, vs, e, ?_, RepL.sep z (by simpa [sepD] using n) r⟩
    rcases t with ⟨nz, t⟩ | t
    · exact .inl ⟨fun q => (z a q).elim nz fun ⟨_, _, _, us, t2, _⟩ => (by rw [t] at t2; cases t2), t⟩
    · exact .inr t
  | .obj c ks l, v, n, h => by
    obtain ⟨a, dx, vs, e, nz, t, k, r⟩ := h
    exact ⟨a, dx, vs, e, fun q => (z a q).elim nz fun ⟨_, _, _, us, t2, _⟩ => (by rw [t] at t2; cases t2), t, k, RepL.sep z (by simpa [sepD] using n) r⟩
theorem RepL.sep {G : Gc} {Z Z' : Addr → Prop} {H : Hp} {Ls : List (List D)} (z : ∀ a, Z' a → Z a ∨ ∃ l ∈ Ls, ∃ Z0 vs, H a = some (.lst vs) ∧ RepL G Z0 H l vs) : ∀ {ds : List D} {vs : List V}, sepDs Ls ds = true → RepL G Z H ds vs → RepL G Z' H ds vs
  | [], vs, _, h => h
  | d :: ds, vs, n, h => by
    obtain ⟨v, r, e, h1, h2⟩ := h
    obtain ⟨n1, n2⟩ := Bool.and_eq_true_iff.mp (by simpa [sepDs] using n)
    exact ⟨v, r, e, Rep.sep z n1 h1, RepL.sep z n2 h2⟩
end
section
variable {is : List Nat} {a e : DE} {ρ : DEnv} {d : D} {x : Ex} {Ls : List (List D)} {l : List D} {ks : List Str} {c : String}
theorem noLs_all : noLs l = l.all noL := by
  induction l with
  | nil => simp [noLs]
  | cons a l ih => simp [noLs, ih]
end
end Tw

set_option maxHeartbeats 400000
namespace Tw
open PySem PySem.Spec L2
open PyProof.Rows hiding St
end Tw

set_option maxHeartbeats 400000
namespace Tw
open PySem PySem.Spec L2
open PyProof.Rows hiding St
end Tw

set_option maxHeartbeats 400000
namespace Tw
open PySem PySem.Spec L2 RT
open PyProof.Rows hiding St
def iRev (a : DE) : DI := fun ρ => (a ρ).bind fun x => match x with
  | .lst l => .ok l.reverse
  | _ => .no
end Tw

set_option maxHeartbeats 400000
namespace Tw
open PySem PySem.Spec L2
open PyProof.Rows hiding St
def dcL (g : DG) (c : DT) (ke ve : DE) (ρ : DEnv) : List D → List Str → List D → R (List Str × List D)
  | [], ks, ds => .ok (ks, ds)
  | x :: xs, ks, ds => match g x ρ with
    | .ok ρ' => match c ρ' with
      | .ok true => match ke ρ' with
        | .ok (.str s) => match ve ρ' with
          | .ok y => if ks.length < lineD then dcL g c ke ve ρ xs (dPutK s ks) (dPutV s y ks ds) else .no
          | _ => .no
        | _ => .no
      | .ok false => dcL g c ke ve ρ xs ks ds
      | _ => .no
    | _ => .no
def eDComp (it : DI) (vs : List Nat) (g : DG) (c : DT) (ke ve : DE) : DE := fun ρ => (it ρ).bind fun l => if l.length ≤ lineD ∧ okW vs ρ = true then (dcL g c ke ve (wipD vs ρ) l [] []).bind fun z => .ok (.dct z.1 z.2) else .no
end Tw

set_option maxHeartbeats 400000
namespace Tw
open PySem PySem.Spec L2
open PyProof.Rows hiding St
def kndD : D → Nat
  | .non => 0 | .bl _ => 1 | .int _ => 2 | .str _ => 3 | .lst _ => 5 | .dct _ _ => 6 | .obj _ _ _ => 7 | _ => 4
/-- kinds that one value cannot be of at once -/
def kndNe (i j : Nat) : Bool := !(i == j) && (decide (i < 4) || decide (j < 4) || (decide (4 < i) && decide (4 < j)))
mutual
def neD : D → D → Bool
  | .lst l, .lst k => neL l k
  | .int i, .int j => !(i == j)
  | .str a, .str b => !(a == b)
  | .bl a, .bl b => !(a == b)
  | .obj _ ks l, .obj _ ks' l' => !(ks.length == ks'.length) || neL l l'
  | x, y => kndNe (kndD x) (kndD y)
def neL : List D → List D → Bool
  | [], [] => false
  | a :: l, b :: k => neD a b || neL l k
  | _, _ => true
end
/-- the kind of a value, as the heap shows it -/
def kndV (H : Hp) : V → Nat → Prop
  | .non, n => n = 0 | .bl _, n => n = 1 | .int _, n => n = 2 | .str _, n => n = 3
  | .ref a, n => (∃ vs, H a = some (.lst vs) ∧ n = 5) ∨ (∃ m, H a = some (.dK m) ∧ n = 6) ∨ (∃ c dx m, H a = some (.ins c dx m) ∧ n = 7) ∨ n = 4
  | _, n => n = 4
theorem rep_knd {G : Gc} {Z : Addr → Prop} {H : Hp} {d : D} {v : V} (h : Rep G Z H d v) : kndV H v (kndD d) := by
  cases d with
  | non => obtain rfl : v = .non := h; rfl
  | bl b => obtain rfl : v = .bl b := h; rfl
  | int b => obtain rfl : v = .int b := h; rfl
  | str b => obtain rfl : v = .str b := h; rfl
  | cls b => obtain rfl : v = .ref (G.cm b) := h; exact .inr (.inr (.inr rfl))
  | gst j => exact h.elim
  | scr ns => obtain ⟨a, rfl, _⟩ := h; exact .inr (.inr (.inr rfl))
  | tup ns => obtain ⟨a, vs, rfl, _⟩ := h; exact .inr (.inr (.inr rfl))
  | lst l => obtain ⟨a, vs, rfl, _, t, _⟩ := h; exact .inl ⟨vs, t, rfl⟩
  | dct ks l => obtain ⟨a, vs, rfl, _, t, _⟩ := h; exact .inr (.inl ⟨_, t, rfl⟩)
  | obj c ks l => obtain ⟨a, dx, vs, rfl, _, t, _⟩ := h; exact .inr (.inr (.inl ⟨_, _, _, t, rfl⟩))
theorem knd_ne {H : Hp} {v : V} {i j : Nat} (h : kndV H v i) (k : kndV H v j) : kndNe i j = false := by
  unfold kndNe
  cases v with
  | non => obtain rfl : i = 0 := h; obtain rfl : j = 0 := k; rfl
  | bl b => obtain rfl : i = 1 := h; obtain rfl : j = 1 := k; rfl
  | int b => obtain rfl : i = 2 := h; obtain rfl : j = 2 := k; rfl
  | str b => obtain rfl : i = 3 := h; obtain rfl : j = 3 := k; rfl
  | ref a =>
    rcases h with ⟨vs, t, rfl⟩ | ⟨m, t, rfl⟩ | ⟨c, dx, m, t, rfl⟩ | rfl <;> rcases k with ⟨vs', t', rfl⟩ | ⟨m', t', rfl⟩ | ⟨c', dx', m', t', rfl⟩ | rfl <;> first | rfl | (rw [t] at t'; cases t')
  | _ => obtain rfl : i = 4 := h; obtain rfl : j = 4 := k; rfl
theorem fKeys_n : ∀ (ks : List Str) (vs : List V), ks.length = vs.length → (fKeys ks vs).length = ks.length ∧ (fKeys ks vs).map (·.2) = vs := by
  intro ks
  induction ks with
  | nil => intro vs h; cases vs with
    | nil => exact ⟨rfl, rfl⟩
    | cons v vs => cases h
  | cons k ks ih =>
    intro vs h
    cases vs with
    | nil => cases h
    | cons v vs =>
      obtain ⟨h1, h2⟩ := ih vs (by simpa using h)
      exact ⟨by show (fKeys ks vs).length + 1 = _; rw [h1]; rfl, by show v :: (fKeys ks vs).map (·.2) = _; rw [h2]⟩
mutual
theorem neD_ne {G : Gc} {Z Z0 : Addr → Prop} {H : Hp} : ∀ {x y : D} {v : V}, Rep G Z H x v → Rep G Z0 H y v → neD x y = true → False := by
  intro x y v h k d
  have kn : kndNe (kndD x) (kndD y) = false := knd_ne (rep_knd h) (rep_knd k)
  match x, y with
  | .lst l, .lst m =>
    obtain ⟨a, vs, e, _, t, r⟩ := h
    obtain ⟨a', vs', e', _, t', r'⟩ := k
    rw [e] at e'
    cases e'
    rw [t] at t'
    cases t'
    exact neL_ne r r' (by simpa [neD] using d)
  | .int i, .int j =>
    have h : v = .int i := h
    have k : v = .int j := k
    rw [h] at k
    cases k
    simp [neD] at d
  | .str i, .str j =>
    have h : v = .str i := h
    have k : v = .str j := k
    rw [h] at k
    cases k
    simp [neD] at d
  | .bl i, .bl j =>
    have h : v = .bl i := h
    have k : v = .bl j := k
    rw [h] at k
    cases k
    simp [neD] at d
  | .obj c ks l, .obj c' ks' l' =>
    obtain ⟨p, dx, vs, e, _, t, ⟨n, _⟩, r⟩ := h
    obtain ⟨p', dx', vs', e', _, t', ⟨n', _⟩, r'⟩ := k
    rw [e] at e'
    cases e'
    rw [t] at t'
    obtain ⟨e1, f1⟩ := fKeys_n ks vs n
    obtain ⟨e2, f2⟩ := fKeys_n ks' vs' n'
    have t2 := Option.some.inj t'
    injection t2 with _ _ t3
    rw [t3] at e1 f1
    have q : ks.length = ks'.length := e1.symm.trans e2
    have q2 : vs' = vs := f2.symm.trans f1
    subst q2
    have d' : (!(ks.length == ks'.length) || neL l l') = true := by simpa [neD] using d
    rcases Bool.or_eq_true_iff.mp d' with d1 | d1
    · simp [q] at d1
    · exact neL_ne r r' d1
  | .non, y => cases y <;> simp [neD, kn] at d <;> simp_all [kndNe, kndD]
  | .cls n, y => cases y <;> simp [neD, kn] at d <;> simp_all [kndNe, kndD]
  | .gst n, y => exact h.elim
  | .scr n, y => cases y <;> simp [neD, kn] at d <;> simp_all [kndNe, kndD]
  | .tup n, y => cases y <;> simp [neD, kn] at d <;> simp_all [kndNe, kndD]
  | .dct n m, y => cases y <;> simp [neD, kn] at d <;> simp_all [kndNe, kndD]
  | .bl b, .non | .bl b, .int _ | .bl b, .str _ | .bl b, .cls _ | .bl b, .scr _ | .bl b, .gst _ | .bl b, .tup _ | .bl b, .lst _ | .bl b, .dct _ _ | .bl b, .obj _ _ _ => simp [neD] at d; rw [kn] at d; cases d
  | .int b, .non | .int b, .bl _ | .int b, .str _ | .int b, .cls _ | .int b, .scr _ | .int b, .gst _ | .int b, .tup _ | .int b, .lst _ | .int b, .dct _ _ | .int b, .obj _ _ _ => simp [neD] at d; rw [kn] at d; cases d
  | .str b, .non | .str b, .bl _ | .str b, .int _ | .str b, .cls _ | .str b, .scr _ | .str b, .gst _ | .str b, .tup _ | .str b, .lst _ | .str b, .dct _ _ | .str b, .obj _ _ _ => simp [neD] at d; rw [kn] at d; cases d
  | .lst b, .non | .lst b, .bl _ | .lst b, .int _ | .lst b, .cls _ | .lst b, .scr _ | .lst b, .gst _ | .lst b, .tup _ | .lst b, .str _ | .lst b, .dct _ _ | .lst b, .obj _ _ _ => simp [neD] at d; rw [kn] at d; cases d
  | .obj _ _ b, .non | .obj _ _ b, .bl _ | .obj _ _ b, .int _ | .obj _ _ b, .cls _ | .obj _ _ b, .scr _ | .obj _ _ b, .gst _ | .obj _ _ b, .tup _ | .obj _ _ b, .lst _ | .obj _ _ b, .dct _ _ | .obj _ _ b, .str _ => simp [neD] at d; rw [kn] at d; cases d
theorem neL_ne {G : Gc} {Z Z0 : Addr → Prop} {H : Hp} : ∀ {l k : List D} {vs : List V}, RepL G Z H l vs → RepL G Z0 H k vs → neL l k = true → False
  | [], [], _, _, _, d => by simp [neL] at d
  | [], b :: k, vs, h, q, _ => by
    obtain ⟨v, r, e, _⟩ := q
    rw [show vs = [] from h] at e
    cases e
  | a :: l, [], vs, h, q, _ => by
    obtain ⟨v, r, e, _⟩ := h
    rw [show vs = [] from q] at e
    cases e
  | a :: l, b :: k, vs, h, q, d => by
    obtain ⟨v, r, e, h1, h2⟩ := h
    obtain ⟨v', r', e', h1', h2'⟩ := q
    rw [e] at e'
    cases e'
    have d' : (neD a b || neL l k) = true := by simpa [neL] using d
    rcases Bool.or_eq_true_iff.mp d' with d1 | d1
    · exact neD_ne h1 h1' d1
    · exact neL_ne h2 h2' d1
end
end Tw

set_option maxHeartbeats 400000
namespace Tw
open PySem PySem.Spec L2
open PyProof.Rows hiding St
mutual
/-- the lists in the data -/
def subD : D → List (List D)
  | .lst l => l :: subDs l
  | .tup l => subDs l
  | .dct _ l => subDs l
  | .obj _ _ l => subDs l
  | .scr ns => [ns.map D.int]
  | _ => []
def subDs : List D → List (List D)
  | [] => []
  | d :: l => subD d ++ subDs l
end
/-- the state without the names that are not marked, nor the object under construction -/
def keep1 : Option Slot → Option Slot
  | some (.val d) => some (.val d)
  | some (.own d) => some (.own d)
  | _ => none
def keepM : List Bool → DEnv → DEnv
  | _, [] => []
  | true :: m, o :: ρ => keep1 o :: keepM m ρ
  | false :: m, _ :: ρ => none :: keepM m ρ
  | [], _ :: ρ => none :: keepM [] ρ
def subE1 : Option Slot → List (List D)
  | some (.val d) => subD d
  | some (.own d) => subDs [d]
  | _ => []
def subE : DEnv → List (List D)
  | [] => []
  | o :: ρ => subE1 o ++ subE ρ
/-- x = e; e sees the marked names alone: its answer's list is the def's own where it is told apart from all that e saw -/
def sOwnX (i : Nat) (m : List Bool) (e : DE) : DS := fun ρ => (e (keepM m ρ)).st ρ fun d => match d with
  | .lst l => if (subDs l ++ subE (keepM m ρ)).all (neL l) then (setO i (.lst l) ρ).bind fun ρ' => .ok (.nx ρ') else (setV i (.lst l) ρ).bind fun ρ' => .ok (.nx ρ')
  | d => (setV i d ρ).bind fun ρ' => .ok (.nx ρ')
end Tw
namespace Tw
open PySem PySem.Spec L2
open PyProof.Rows hiding St
/-- x.clear(), x the def's own list, or an empty one -/
def sClearE (i : Nat) : DS := fun ρ => match ρ[i]? with
  | some (some (.own (.lst _))) => .ok (.nx (ρ.set i (some (.own (.lst [])))))
  | some (some (.val (.lst []))) => .ok (.nx ρ)
  | _ => .no
end Tw

set_option maxHeartbeats 2000000
namespace Tw
open PySem PySem.Spec L2
open PyProof.Rows hiding St
end Tw
namespace Tw
open PySem PySem.Spec L2
open PyProof.Rows hiding St
end Tw

set_option maxHeartbeats 2000000
namespace Tw
open PySem PySem.Spec L2
open PyProof.Rows hiding St
end Tw

set_option maxHeartbeats 2000000
namespace Tw
open PySem PySem.Spec L2
open PyProof.Rows hiding St
end Tw

set_option maxHeartbeats 2000000
namespace Tw
open PySem PySem.Spec L2
open PyProof.Rows hiding St
end Tw

set_option maxHeartbeats 2000000
namespace Tw
open PySem PySem.Spec L2
open PyProof.Rows hiding St
end Tw

set_option maxHeartbeats 2000000
namespace Tw
open PySem PySem.Spec L2 L2H
open PyProof.Rows hiding St
end Tw

set_option maxHeartbeats 2000000
namespace Tw
open PySem PySem.Spec L2 L2H HotX
open PyProof.Rows hiding St
section
variable {X : Cx} {pins : List (Addr × Obj)} {σ : L2.St} {H : Hp} {s : Shared}
/-- what is known of the handled error p -/
structure HotE (X : Cx) (p : Addr × Obj) (clb : Value) : Prop where
  hot : Hot1 X.A p
  mem : p ∈ X.pn
  cls : p.2.cls = clb
  rs : Raises X clb
  base : X.base.get? p.1 = none
theorem HotE.c {p : Addr × Obj} {clb : Value} (h : HotE X p clb) : HotC X := ⟨p, h.hot, h.mem⟩
end
end Tw

set_option maxHeartbeats 2000000
namespace Tw
open PySem PySem.Spec L2 L2H HotX
open PyProof.Rows hiding St
end Tw

set_option maxHeartbeats 2000000
namespace Tw
open PySem PySem.Spec L2 L2H HotX
open PyProof.Rows hiding St
/-- the context of such a suite -/
abbrev sxX (X : Cx) (a : Addr) (pn : List (Addr × Obj)) (xe : Value → Shared → Prop) : Cx := { X with A := X.A.mark (some (.ref a)), calm := false, pn := pn, xe := xe }
end Tw

set_option maxHeartbeats 2000000
namespace Tw
open PySem PySem.Spec L2 L2H HotX
open PyProof.Rows hiding St
def Cy.nf (Y : Cy) : Cy := { Y with E := fun _ _ _ _ => False }
end Tw

set_option maxHeartbeats 2000000
namespace Tw
open PySem PySem.Spec L2
open PyProof.Rows hiding St
end Tw

set_option maxHeartbeats 2000000
namespace Tw
open PySem PySem.Spec L2 L2H HotX
open PyProof.Rows hiding St
section
variable {X : Cx} {Y : Cy} {O : Addr → Prop} {ρ : DEnv} {σ : L2.St} {H : Hp}
theorem PA.sx {a : Addr} {pn : List (Addr × Obj)} {xe : Value → Shared → Prop} {es : List Expr} {t : TA} (h : PA (X.suite a pn) es t) : PA (sxX X a pn xe) es t :=
  ⟨fun p pins s σ H Q I q => wpAny_mono (h.run p pins s σ H Q (Inv.wish (X := sxX X a pn xe) I fun _ _ => False) q) (fun v s1 ⟨vs, H1, I1, z⟩ => ⟨vs, H1, Inv.unwish (X := sxX X a pn xe) (E := fun _ _ => False) I1, z⟩) fun _ _ z => z.elim⟩
def Cy.gn (Y : Cy) (i : Nat) : Cy := { Y with E := fun c d σ H => Y.E c d (σ.set i none) H }
end
end Tw

set_option maxHeartbeats 2000000
namespace Tw
open PySem PySem.Spec L2
open PyProof.Rows hiding St
/-- the items: the lists among them are the cells F -/
def TRep (G : Gc) (Z : Addr → Prop) (H : Hp) : List D → List V → List Addr → Prop
  | [], vs, F => vs = [] ∧ F = []
  | .lst x :: l, vs, F => ∃ b r F' us, vs = .ref b :: r ∧ F = b :: F' ∧ H b = some (.lst us) ∧ RepL G Z H x us ∧ TRep G Z H l r F'
  | d :: l, vs, F => ∃ v r, vs = v :: r ∧ Rep G Z H d v ∧ TRep G Z H l r F
def Cy.tz (Y : Cy) (Ze : Addr → Prop) (a : Addr) : Cy := { Y with Ze := Ze, pt := fun _ => .ref a }
/-- the state: the name i holds the list of items l, its cells are Ω -/
def TS0 (Y : Cy) (i : Nat) (O Ω : Addr → Prop) (ρ : DEnv) (l : List D) (σ : L2.St) (H : Hp) : Prop :=
  ∃ (a : Addr) (vs : List V) (F : List Addr), SR (Y.tz (Zo Y.Ze Ω) a) O ρ σ H ∧ ρ[i]? = some (some .ptr) ∧ H a = some (.lst vs) ∧ TRep Y.G (Zo (Zo Y.Ze Ω) O) H l vs F ∧ (a :: F).Nodup ∧ (∀ x, Ω x ↔ x ∈ a :: F) ∧ (∀ x, Ω x → ¬ Y.Ze x ∧ ¬ O x) ∧ ∀ j x, ρ[j]? = some (some x) → (x = .ptr ∨ ∃ d, x = .pin d) → j = i
section
variable {G : Gc} {Z Z' : Addr → Prop} {H H' : Hp}
theorem TRep.mono (s : Sub Z H H') (z : ∀ a, Z' a → Z a ∨ H a = none) : ∀ {l : List D} {vs : List V} {F : List Addr}, (∀ b ∈ F, ∀ o, H b = some o → H' b = some o) → TRep G Z H l vs F → TRep G Z' H' l vs F
  | [], vs, F, _, h => h
  | .lst x :: l, vs, F, k, h => by
    obtain ⟨b, r, F', us, e1, e2, e3, e4, e5⟩ := h
    subst e2
    exact ⟨b, r, F', us, e1, rfl, k b List.mem_cons_self _ e3, RepL.mono s z e4, TRep.mono s z (fun c hc => k c (List.mem_cons_of_mem _ hc)) e5⟩
  | .non :: l, vs, F, k, h => let ⟨v, r, e1, e2, e3⟩ := h; ⟨v, r, e1, Rep.mono s z e2, TRep.mono s z k e3⟩
  | .bl _ :: l, vs, F, k, h => let ⟨v, r, e1, e2, e3⟩ := h; ⟨v, r, e1, Rep.mono s z e2, TRep.mono s z k e3⟩
  | .int _ :: l, vs, F, k, h => let ⟨v, r, e1, e2, e3⟩ := h; ⟨v, r, e1, Rep.mono s z e2, TRep.mono s z k e3⟩
  | .str _ :: l, vs, F, k, h => let ⟨v, r, e1, e2, e3⟩ := h; ⟨v, r, e1, Rep.mono s z e2, TRep.mono s z k e3⟩
  | .cls _ :: l, vs, F, k, h => let ⟨v, r, e1, e2, e3⟩ := h; ⟨v, r, e1, Rep.mono s z e2, TRep.mono s z k e3⟩
  | .gst _ :: l, vs, F, k, h => let ⟨v, r, e1, e2, e3⟩ := h; ⟨v, r, e1, Rep.mono s z e2, TRep.mono s z k e3⟩
  | .scr _ :: l, vs, F, k, h => let ⟨v, r, e1, e2, e3⟩ := h; ⟨v, r, e1, Rep.mono s z e2, TRep.mono s z k e3⟩
  | .tup _ :: l, vs, F, k, h => let ⟨v, r, e1, e2, e3⟩ := h; ⟨v, r, e1, Rep.mono s z e2, TRep.mono s z k e3⟩
  | .dct _ _ :: l, vs, F, k, h => let ⟨v, r, e1, e2, e3⟩ := h; ⟨v, r, e1, Rep.mono s z e2, TRep.mono s z k e3⟩
  | .obj _ _ _ :: l, vs, F, k, h => let ⟨v, r, e1, e2, e3⟩ := h; ⟨v, r, e1, Rep.mono s z e2, TRep.mono s z k e3⟩
/-- given out: values like others -/
theorem TRep.rep (z : ∀ a, Z' a → Z a) : ∀ {l : List D} {vs : List V} {F : List Addr}, (∀ b ∈ F, ¬ Z' b) → TRep G Z H l vs F → RepL G Z' H l vs
  | [], vs, F, _, h => h.1
  | .lst x :: l, vs, F, k, h => by
    obtain ⟨b, r, F', us, e1, e2, e3, e4, e5⟩ := h
    subst e2
    exact ⟨.ref b, r, e1, ⟨b, us, rfl, k b List.mem_cons_self, e3, RepL.weak z e4⟩, TRep.rep z (fun c hc => k c (List.mem_cons_of_mem _ hc)) e5⟩
  | .non :: l, vs, F, k, h => let ⟨v, r, e1, e2, e3⟩ := h; ⟨v, r, e1, Rep.weak z e2, TRep.rep z k e3⟩
  | .bl _ :: l, vs, F, k, h => let ⟨v, r, e1, e2, e3⟩ := h; ⟨v, r, e1, Rep.weak z e2, TRep.rep z k e3⟩
  | .int _ :: l, vs, F, k, h => let ⟨v, r, e1, e2, e3⟩ := h; ⟨v, r, e1, Rep.weak z e2, TRep.rep z k e3⟩
  | .str _ :: l, vs, F, k, h => let ⟨v, r, e1, e2, e3⟩ := h; ⟨v, r, e1, Rep.weak z e2, TRep.rep z k e3⟩
  | .cls _ :: l, vs, F, k, h => let ⟨v, r, e1, e2, e3⟩ := h; ⟨v, r, e1, Rep.weak z e2, TRep.rep z k e3⟩
  | .gst _ :: l, vs, F, k, h => let ⟨v, r, e1, e2, e3⟩ := h; ⟨v, r, e1, Rep.weak z e2, TRep.rep z k e3⟩
  | .scr _ :: l, vs, F, k, h => let ⟨v, r, e1, e2, e3⟩ := h; ⟨v, r, e1, Rep.weak z e2, TRep.rep z k e3⟩
  | .tup _ :: l, vs, F, k, h => let ⟨v, r, e1, e2, e3⟩ := h; ⟨v, r, e1, Rep.weak z e2, TRep.rep z k e3⟩
  | .dct _ _ :: l, vs, F, k, h => let ⟨v, r, e1, e2, e3⟩ := h; ⟨v, r, e1, Rep.weak z e2, TRep.rep z k e3⟩
  | .obj _ _ _ :: l, vs, F, k, h => let ⟨v, r, e1, e2, e3⟩ := h; ⟨v, r, e1, Rep.weak z e2, TRep.rep z k e3⟩
theorem TRep.cells : ∀ {l : List D} {vs : List V} {F : List Addr}, TRep G Z H l vs F → ∀ b ∈ F, ∃ us, H b = some (.lst us)
  | [], vs, F, h, b, hb => by rw [h.2] at hb; cases hb
  | .lst x :: l, vs, F, h, b, hb => by
    obtain ⟨c, r, F', us, e1, e2, e3, e4, e5⟩ := h
    subst e2
    rcases List.mem_cons.mp hb with rfl | hb
    · exact ⟨us, e3⟩
    · exact TRep.cells e5 b hb
  | .non :: l, vs, F, h, b, hb => let ⟨v, r, e1, e2, e3⟩ := h; TRep.cells e3 b hb
  | .bl _ :: l, vs, F, h, b, hb => let ⟨v, r, e1, e2, e3⟩ := h; TRep.cells e3 b hb
  | .int _ :: l, vs, F, h, b, hb => let ⟨v, r, e1, e2, e3⟩ := h; TRep.cells e3 b hb
  | .str _ :: l, vs, F, h, b, hb => let ⟨v, r, e1, e2, e3⟩ := h; TRep.cells e3 b hb
  | .cls _ :: l, vs, F, h, b, hb => let ⟨v, r, e1, e2, e3⟩ := h; TRep.cells e3 b hb
  | .gst _ :: l, vs, F, h, b, hb => let ⟨v, r, e1, e2, e3⟩ := h; TRep.cells e3 b hb
  | .scr _ :: l, vs, F, h, b, hb => let ⟨v, r, e1, e2, e3⟩ := h; TRep.cells e3 b hb
  | .tup _ :: l, vs, F, h, b, hb => let ⟨v, r, e1, e2, e3⟩ := h; TRep.cells e3 b hb
  | .dct _ _ :: l, vs, F, h, b, hb => let ⟨v, r, e1, e2, e3⟩ := h; TRep.cells e3 b hb
  | .obj _ _ _ :: l, vs, F, h, b, hb => let ⟨v, r, e1, e2, e3⟩ := h; TRep.cells e3 b hb
end
section
variable {X : Cx} {Y : Cy} {O Ω : Addr → Prop} {ρ : DEnv} {l : List D} {σ : L2.St} {H : Hp} {i : Nat}
theorem RepGw {G : Gc} {Z Z' : Addr → Prop} {α : Nat → Addr} {H : Hp} (z : ∀ a, Z' a → Z a) : ∀ {ds : List D} {vs : List V}, RepGL G Z α ρ H ds vs → (∀ j d', ρ[j]? = some (some (.gho d')) → j ≠ i) → RepGL G Z' α (ρ.set i (some (.val (.lst l)))) H ds vs
  | [], vs, h, _ => h
  | d :: ds, vs, h, k => by
    obtain ⟨v, r, e, h1, h2⟩ := h
    refine ⟨v, r, e, ?_, RepGw z h2 k⟩
    cases d with
    | gst j =>
      obtain ⟨e1, d', e2⟩ := h1
      exact ⟨e1, d', by rw [List.getElem?_set_ne (Ne.symm (k j d' e2))]; exact e2⟩
    | _ => exact Rep.weak z h1
theorem RepW.weak2 {G : Gc} {Z Z' : Addr → Prop} {H : Hp} (z : ∀ a, Z' a → Z a) {d : D} {v : V} (h : RepW G Z H d v) : RepW G Z' H d v := by
  cases d with
  | lst l => obtain ⟨a, vs, e, t, r⟩ := h; exact ⟨a, vs, e, t, r.weak z⟩
  | dct ks l => obtain ⟨a, vs, e, t, k, r⟩ := h; exact ⟨a, vs, e, t, k, r.weak z⟩
  | obj c ks l => obtain ⟨a, dx, vs, e, t, k, r⟩ := h; exact ⟨a, dx, vs, e, t, k, r.weak z⟩
  | _ => exact Rep.weak z h
/-- the list is given out -/
theorem TS0.frz (t : TS0 Y i O Ω ρ l σ H) : SR Y O (ρ.set i (some (.val (.lst l)))) σ H := by
  obtain ⟨a, vs, F, ⟨α, s⟩, hi, ha, tr, nd, om, ap, po⟩ := t
  have hlt : i < ρ.length := (List.getElem?_eq_some_iff.mp hi).1
  have zz : ∀ c, Zo Y.Ze O c → Zo (Zo Y.Ze Ω) O c := fun c z => z.elim (fun z => .inl (.inl z)) .inr
  have ow : ∀ j, isOwn (ρ.set i (some (.val (.lst l)))) j ↔ isOwn ρ j := fun j => by
    by_cases hj : j = i
    · subst hj
      constructor
      · rintro ⟨d, h⟩
        rw [List.getElem?_set_self hlt] at h
        rcases h with h | h | h <;> cases h
      · rintro ⟨d, h⟩
        rw [hi] at h
        rcases h with h | h | h <;> cases h
    · unfold isOwn
      rw [List.getElem?_set_ne (Ne.symm hj)]
  have ne : ∀ {j : Nat} {x : Slot}, (ρ.set i (some (.val (.lst l))))[j]? = some (some x) → (∀ d, x ≠ .val d) → j ≠ i ∧ ρ[j]? = some (some x) := fun {j x} h hx => by
    by_cases hj : j = i
    · subst hj
      rw [List.getElem?_set_self hlt] at h
      cases h
      exact absurd rfl (hx _)
    · rw [List.getElem?_set_ne (Ne.symm hj)] at h
      exact ⟨hj, h⟩
  have gi : ∀ j d', ρ[j]? = some (some (.gho d')) → j ≠ i := fun j d' h z => by rw [z, hi] at h; cases h
  refine ⟨α, ⟨?_, fun j d e => ?_, fun j d e => ?_, fun j d e => ?_, fun j d e => ?_, fun j k hj hk e => s.inj j k ((ow j).mp hj) ((ow k).mp hk) e, fun c => (s.oeq c).trans ⟨fun ⟨j, h, e⟩ => ⟨j, (ow j).mpr h, e⟩, fun ⟨j, h, e⟩ => ⟨j, (ow j).mp h, e⟩⟩, fun c z => s.zt c (.inl z), s.ot, PtrOk.no fun j x e hx => ?_⟩⟩
  · rw [List.length_set]; exact s.len
  · by_cases hj : j = i
    · subst hj
      rw [List.getElem?_set_self hlt] at e
      cases e
      have hs : σ[j]? = some (some (.ref a)) := s.ptr.1 j hi
      refine ⟨.ref a, hs, a, vs, rfl, ?_, ha, TRep.rep zz (fun c hc => ?_) tr⟩
      · rintro (z | z)
        · exact (ap a ((om a).mpr List.mem_cons_self)).1 z
        · exact (ap a ((om a).mpr List.mem_cons_self)).2 z
      · rintro (z | z)
        · exact (ap c ((om c).mpr (List.mem_cons_of_mem _ hc))).1 z
        · exact (ap c ((om c).mpr (List.mem_cons_of_mem _ hc))).2 z
    · rw [List.getElem?_set_ne (Ne.symm hj)] at e
      obtain ⟨v, e1, r⟩ := s.val j d e
      exact ⟨v, e1, r.weak zz⟩
  · obtain ⟨_, e⟩ := ne e fun d h => by cases h
    obtain ⟨e1, n, r⟩ := s.own j d e
    exact ⟨e1, fun z => n (.inl z), RepW.weak2 zz r⟩
  · obtain ⟨_, e⟩ := ne e fun d h => by cases h
    obtain ⟨e1, n, c, ks, lf, dx, us, e2, e3, e4, r⟩ := s.slf j d e
    exact ⟨e1, n, c, ks, lf, dx, us, e2, e3, e4, RepGw zz r gi⟩
  · obtain ⟨_, e⟩ := ne e fun d h => by cases h
    obtain ⟨r, k⟩ := s.gho j d e
    exact ⟨RepW.weak2 zz r, k⟩
  · obtain ⟨hj, e⟩ := ne e fun d h => by rcases hx with rfl | ⟨_, rfl⟩ <;> cases h
    exact absurd (po j x e hx) hj
def noPtr (ρ : DEnv) : Bool := ρ.all fun o => match o with | some .ptr => false | some (.pin _) => false | _ => true
def ptrAt (i : Nat) (ρ : DEnv) : Bool := (match ρ[i]? with | some (some .ptr) => true | _ => false) && noPtr (ρ.set i none)
theorem ptrAt_ok (h : ptrAt i ρ = true) : ρ[i]? = some (some .ptr) ∧ ∀ j x, ρ[j]? = some (some x) → (x = .ptr ∨ ∃ d, x = .pin d) → j = i := by
  obtain ⟨h1, h2⟩ := Bool.and_eq_true_iff.mp h
  refine ⟨?_, fun j x e hx => ?_⟩
  · split at h1
    · assumption
    · cases h1
  · by_cases hj : j = i
    · exact hj
    · have e2 : (ρ.set i none)[j]? = some (some x) := by rw [List.getElem?_set_ne (Ne.symm hj)]; exact e
      have := List.all_eq_true.mp h2 _ (List.mem_of_getElem? e2)
      rcases hx with rfl | ⟨_, rfl⟩ <;> cases this
/-- the rest of a def, to its end -/
def tTs (Y : Cy) (i : Nat) (F : DEnv → List D → R Out) : TS := fun N σ H => ∃ O Ω ρ l, TS0 Y i O Ω ρ l σ H ∧ SPost Y (Zo Ω O) H N (F ρ l)
def PTs (X : Cx) (Y : Cy) (i : Nat) (sts : List Stmt) (F : DEnv → List D → R Out) : Prop := Lk X Y → PSs X sts (tTs Y i F)
theorem Lk.tz (k : Lk X Y) (Ze : Addr → Prop) (a : Addr) : Lk X (Y.tz Ze a) := ⟨k.K, k.ln, k.tk, k.rm, k.hd, k.nd, k.po, k.calm⟩
/-- what a base step leaves of the list -/
theorem TS0.step {O' : Addr → Prop} {H' : Hp} {σ' : L2.St} {ρ' : DEnv} {a : Addr} {vs : List V} {F : List Addr} (st : Stp O H O' H') (s' : SR (Y.tz (Zo Y.Ze Ω) a) O' ρ' σ' H') (hp : ptrAt i ρ' = true) (ha : H a = some (.lst vs)) (tr : TRep Y.G (Zo (Zo Y.Ze Ω) O) H l vs F) (nd : (a :: F).Nodup) (om : ∀ x, Ω x ↔ x ∈ a :: F) (ap : ∀ x, Ω x → ¬ Y.Ze x ∧ ¬ O x) :
    Stp (Zo Ω O) H (Zo Ω O') H' ∧ TS0 Y i O' Ω ρ' l σ' H' := by
  obtain ⟨p1, p2⟩ := ptrAt_ok hp
  have there : ∀ x, Ω x → ∃ us, H x = some (.lst us) := fun x hx => by
    rcases List.mem_cons.mp ((om x).mp hx) with rfl | h
    · exact ⟨vs, ha⟩
    · exact tr.cells x h
  refine ⟨⟨fun c o n e => st.1 c o (fun z => n (.inr z)) e, fun c z => z.elim (fun z => .inl (.inl z)) fun z => (st.2 c z).imp .inr id⟩, a, vs, F, s', p1, st.1 a _ (ap a ((om a).mpr List.mem_cons_self)).2 ha, ?_, nd, om, fun x hx => ⟨(ap x hx).1, fun z => ?_⟩, p2⟩
  · refine TRep.mono (fun c o n e => st.1 c o (fun z => n (.inr z)) e) (fun c z => z.elim (fun z => .inl (.inl z)) fun z => (st.2 c z).imp .inr id) (fun b hb o e => st.1 b o (ap b ((om b).mpr (List.mem_cons_of_mem _ hb))).2 e) tr
  · obtain ⟨us, e⟩ := there x hx
    rcases st.2 x z with z | z
    · exact (ap x hx).2 z
    · rw [e] at z; cases z
end
end Tw

set_option maxHeartbeats 2000000
namespace Tw
open PySem PySem.Spec L2
open PyProof.Rows hiding St
section
variable {G : Gc} {Z : Addr → Prop} {H : Hp}
theorem TRep.put : ∀ {l : List D} {vs : List V} {F : List Addr} {j : Nat} {x : List D}, (∀ c ∈ F, Z c) → F.Nodup → TRep G Z H l vs F → l[j]? = some (.lst x) →
    ∃ b us, vs[j]? = some (.ref b) ∧ b ∈ F ∧ H b = some (.lst us) ∧ RepL G Z H x us ∧ ∀ x' us', RepL G Z H x' us' → TRep G Z (upd H b (.lst us')) (l.set j (.lst x')) vs F := by
  intro l
  induction l with
  | nil => intro vs F j x _ _ _ e; simp at e
  | cons d l ih =>
    intro vs F j x hz nd h e
    have sub : ∀ b us', Z b → Sub Z H (upd H b (.lst us')) := fun b us' zb c o n q => by
      rw [upd_ne fun z => n (by rw [z]; exact zb)]; exact q
    cases j with
    | zero =>
      rw [List.getElem?_cons_zero] at e
      cases e
      obtain ⟨b, r, F', us, rfl, rfl, e3, e4, e5⟩ := h
      have zb := hz b List.mem_cons_self
      refine ⟨b, us, rfl, List.mem_cons_self, e3, e4, fun x' us' r' => ⟨b, r, F', us', rfl, rfl, upd_same, RepL.mono (sub b us' zb) (fun _ z => .inl z) r', ?_⟩⟩
      exact TRep.mono (sub b us' zb) (fun _ z => .inl z) (fun c hc o q => by
        rw [upd_ne fun z => (List.nodup_cons.mp nd).1 (by rw [← z]; exact hc)]; exact q) e5
    | succ j =>
      rw [List.getElem?_cons_succ] at e
      cases d
      case lst y =>
        obtain ⟨c, r, F', us, rfl, rfl, e3, e4, e5⟩ := h
        obtain ⟨n1, n2⟩ := List.nodup_cons.mp nd
        obtain ⟨b, us2, g1, g2, g3, g4, g5⟩ := ih (fun c hc => hz c (List.mem_cons_of_mem _ hc)) n2 e5 e
        have zb := hz b (List.mem_cons_of_mem _ g2)
        refine ⟨b, us2, g1, List.mem_cons_of_mem _ g2, g3, g4, fun x' us' r' => ⟨c, r, F', us, rfl, rfl, ?_, RepL.mono (sub b us' zb) (fun _ z => .inl z) e4, g5 x' us' r'⟩⟩
        rw [upd_ne fun z => n1 (by rw [z]; exact g2)]; exact e3
      all_goals
        obtain ⟨v, r, rfl, e2, e3⟩ := h
        obtain ⟨b, us2, g1, g2, g3, g4, g5⟩ := ih hz nd e3 e
        have zb := hz b g2
        exact ⟨b, us2, g1, g2, g3, g4, fun x' us' r' => ⟨v, r, rfl, Rep.mono (sub b us' zb) (fun _ z => .inl z) e2, g5 x' us' r'⟩⟩
theorem TRep.len : ∀ {l : List D} {vs : List V} {F : List Addr}, TRep G Z H l vs F → l.length = vs.length := by
  intro l
  induction l with
  | nil => intro vs F h; rw [h.1]; rfl
  | cons d l ih =>
    intro vs F h
    cases d
    case lst y =>
      obtain ⟨c, r, F', us, rfl, _, _, _, e5⟩ := h
      rw [List.length_cons, List.length_cons, ih e5]
    all_goals
      obtain ⟨v, r, rfl, _, e3⟩ := h
      rw [List.length_cons, List.length_cons, ih e3]
end
section
variable {Y : Cy} {O : Addr → Prop} {ρ : DEnv} {σ : L2.St} {H : Hp}
theorem RepW.mono2 {G : Gc} {Z : Addr → Prop} {H H' : Hp} (s : Sub Z H H') {d : D} {a : Addr} (k : ∀ o, H a = some o → H' a = some o) (h : RepW G Z H d (.ref a)) : RepW G Z H' d (.ref a) := by
  cases d with
  | lst l => obtain ⟨b, vs, e, t, r⟩ := h; cases e; exact ⟨_, vs, rfl, k _ t, RepL.mono s (fun _ z => .inl z) r⟩
  | dct ks l => obtain ⟨b, vs, e, t, q, r⟩ := h; cases e; exact ⟨_, vs, rfl, k _ t, q, RepL.mono s (fun _ z => .inl z) r⟩
  | obj c ks l => obtain ⟨b, dx, vs, e, t, q, r⟩ := h; cases e; exact ⟨_, dx, vs, rfl, k _ t, q, RepL.mono s (fun _ z => .inl z) r⟩
  | _ => exact Rep.mono s (fun _ z => .inl z) h
theorem RepGm {G : Gc} {Z : Addr → Prop} {α : Nat → Addr} {H H' : Hp} (s : Sub Z H H') : ∀ {ds : List D} {vs : List V}, RepGL G Z α ρ H ds vs → RepGL G Z α ρ H' ds vs
  | [], vs, h => h
  | d :: ds, vs, h => by
    obtain ⟨v, r, e, h1, h2⟩ := h
    refine ⟨v, r, e, ?_, RepGm s h2⟩
    cases d with
    | gst j => exact h1
    | _ => exact Rep.mono s (fun _ z => .inl z) h1
/-- a hidden cell is written -/
theorem SR.hid {b : Addr} {o : HO} (s : SR Y O ρ σ H) (hb : Y.Ze b) (nb : ¬ O b) : SR Y O ρ σ (upd H b o) := by
  obtain ⟨α, s⟩ := s
  have sub : Sub (Zo Y.Ze O) H (upd H b o) := fun c u n q => by
    rw [upd_ne fun z => n (.inl (by rw [z]; exact hb))]; exact q
  have ke : ∀ {c : Addr}, O c → ∀ u, H c = some u → upd H b o c = some u := fun {c} hc u q => by
    rw [upd_ne fun z => nb (by rw [← z]; exact hc)]; exact q
  have ow : ∀ {j : Nat}, isOwn ρ j → O (α j) := fun h => (s.oeq _).mpr ⟨_, h, rfl⟩
  refine ⟨α, ⟨s.len, fun j d e => ?_, fun j d e => ?_, fun j d e => ?_, fun j d e => ?_, s.inj, s.oeq, fun c z => ?_, fun c z => ?_, s.ptr.m (fun _ _ r => Rep.mono sub (fun _ z => .inl z) r)⟩⟩
  · obtain ⟨v, e1, r⟩ := s.val j d e
    exact ⟨v, e1, Rep.mono sub (fun _ z => .inl z) r⟩
  · obtain ⟨e1, n, r⟩ := s.own j d e
    exact ⟨e1, n, RepW.mono2 sub (ke (ow ⟨d, .inl e⟩)) r⟩
  · obtain ⟨e1, n, c, ks, lf, dx, us, e2, e3, e4, r⟩ := s.slf j d e
    exact ⟨e1, n, c, ks, lf, dx, us, e2, ke (ow ⟨d, .inr (.inl e)⟩) _ e3, e4, RepGm sub r⟩
  · obtain ⟨r, k⟩ := s.gho j d e
    exact ⟨RepW.mono2 sub (ke (ow ⟨d, .inr (.inr e)⟩)) r, k⟩
  · by_cases h : c = b
    · rw [h, upd_same]; exact fun q => by cases q
    · rw [upd_ne h]; exact s.zt c z
  · by_cases h : c = b
    · rw [h, upd_same]; exact fun q => by cases q
    · rw [upd_ne h]; exact s.ot c z
end
end Tw

set_option maxHeartbeats 2000000
namespace Tw
open PySem PySem.Spec L2
open PyProof.Rows hiding St
section
variable {G : Gc} {Z : Addr → Prop} {H : Hp}
theorem TRep.get : ∀ {l : List D} {vs : List V} {F : List Addr} {j : Nat} {x : List D}, TRep G Z H l vs F → l[j]? = some (.lst x) → ∃ b us, vs[j]? = some (.ref b) ∧ b ∈ F ∧ H b = some (.lst us) ∧ RepL G Z H x us := by
  intro l
  induction l with
  | nil => intro vs F j x _ e; simp at e
  | cons d l ih =>
    intro vs F j x h e
    cases j with
    | zero =>
      rw [List.getElem?_cons_zero] at e
      cases e
      obtain ⟨b, r, F', us, rfl, rfl, e3, e4, e5⟩ := h
      exact ⟨b, us, rfl, List.mem_cons_self, e3, e4⟩
    | succ j =>
      rw [List.getElem?_cons_succ] at e
      cases d
      case lst y =>
        obtain ⟨c, r, F', us, rfl, rfl, e3, e4, e5⟩ := h
        obtain ⟨b, us2, g1, g2, g3, g4⟩ := ih e5 e
        exact ⟨b, us2, g1, List.mem_cons_of_mem _ g2, g3, g4⟩
      all_goals
        obtain ⟨v, r, rfl, e2, e3⟩ := h
        obtain ⟨b, us2, g1, g2, g3, g4⟩ := ih e3 e
        exact ⟨b, us2, g1, g2, g3, g4⟩
end
end Tw

set_option maxHeartbeats 2000000
namespace Tw
open PySem PySem.Spec L2
open PyProof.Rows hiding St
section
variable {G : Gc} {Z : Addr → Prop} {H : Hp}
theorem TRep.snoc : ∀ {l : List D} {vs : List V} {F : List Addr} {x : List D} {p : Addr} {us : List V}, TRep G Z H l vs F → H p = some (.lst us) → RepL G Z H x us → TRep G Z H (l ++ [.lst x]) (vs ++ [.ref p]) (F ++ [p]) := by
  intro l
  induction l with
  | nil =>
    intro vs F x p us h hp r
    obtain ⟨rfl, rfl⟩ := h
    exact ⟨p, [], [], us, rfl, rfl, hp, r, rfl, rfl⟩
  | cons d l ih =>
    intro vs F x p us h hp r
    cases d
    case lst y =>
      obtain ⟨c, w, F', us2, rfl, rfl, e3, e4, e5⟩ := h
      exact ⟨c, _, _, us2, rfl, rfl, e3, e4, ih e5 hp r⟩
    all_goals
      obtain ⟨v, w, rfl, e2, e3⟩ := h
      exact ⟨v, _, rfl, e2, ih e3 hp r⟩
end
section
variable {X : Cx} {Y : Cy} {O : Addr → Prop} {ρ : DEnv} {σ : L2.St} {H H' : Hp}
theorem SR.blkS {E : Addr → Prop} (s : SR Y O ρ σ H) (sm : Same H H') (h0 : ∀ a, E a → H a = none) (h1 : ∀ a, E a → H' a ≠ none) : SR (Y.blk fun a => Y.Ze a ∨ E a) O ρ σ H' := by
  obtain ⟨α, s⟩ := s
  have zz : ∀ a, Zo (fun a => Y.Ze a ∨ E a) O a → Zo Y.Ze O a ∨ H a = none := fun a z => by
    rcases z with (z | z) | z
    · exact .inl (.inl z)
    · exact .inr (h0 a z)
    · exact .inl (.inr z)
  refine ⟨α, s.len, fun i d e => ?_, fun i d e => ?_, fun i d e => ?_, fun i d e => ?_, s.inj, s.oeq, fun a z => ?_, fun a z q => s.ot a z (sm.free q), s.ptr.m (fun _ _ r => r.mono (Same.sub sm) zz) rfl⟩
  · obtain ⟨v, e1, r⟩ := s.val i d e
    exact ⟨v, e1, r.mono (Same.sub sm) zz⟩
  · obtain ⟨e1, n, r⟩ := s.own i d e
    refine ⟨e1, fun z => ?_, r.mono sm zz⟩
    rcases z with z | z
    · exact n z
    · exact s.ot (α i) ((s.oeq _).mpr ⟨i, ⟨d, .inl e⟩, rfl⟩) (h0 _ z)
  · obtain ⟨e1, n, c, ks, l, dx, vs, e2, e3, e4, r⟩ := s.slf i d e
    exact ⟨e1, n, c, ks, l, dx, vs, e2, sm _ _ e3, e4, RepGL.mono sm zz (fun j d' h => ⟨rfl, d', h⟩) r⟩
  · obtain ⟨r, k⟩ := s.gho i d e
    exact ⟨r.mono sm zz, k⟩
  · rcases z with z | z
    · exact fun q => s.zt a z (sm.free q)
    · exact h1 a z
end
end Tw

set_option maxHeartbeats 2000000
namespace Tw
open PySem PySem.Spec L2
open PyProof.Rows hiding St
section
variable {X : Cx} {Y : Cy} {O : Addr → Prop} {ρ : DEnv} {σ : L2.St} {H H' H0 : Hp} {i : Nat}
theorem noPtr_ok (h : noPtr ρ = true) (j : Nat) (x : Slot) (e : ρ[j]? = some (some x)) (hx : x = .ptr ∨ ∃ d, x = .pin d) : False := by
  have := List.all_eq_true.mp h _ (List.mem_of_getElem? e)
  rcases hx with rfl | ⟨_, rfl⟩ <;> cases this
theorem SR.putp {Ze : Addr → Prop} {a : Addr} (s : SR (Y.blk Ze) O ρ σ H) (hi : ρ[i]? = some none) (hn : i < Y.n) (hp : noPtr ρ = true) : SR (Y.tz Ze a) O (ρ.set i (some .ptr)) (σ.set i (some (.ref a))) H := by
  obtain ⟨α, s⟩ := s
  have sub : ∀ j, isOwn (ρ.set i (some .ptr)) j ↔ isOwn ρ j := fun j => by
    refine ⟨fun h => ?_, fun h => ?_⟩
    · rcases isOwn_set h with ⟨_, d, k | k | k⟩ | ⟨_, k⟩
      · cases k
      · cases k
      · cases k
      · exact k
    · have hj : j ≠ i := fun e => isOwn_none hi (e ▸ h)
      obtain ⟨d', h⟩ := h
      refine ⟨d', ?_⟩
      rw [List.getElem?_set_ne (Ne.symm hj)]
      exact h
  have hσ : i < σ.length := by rw [s.len.1]; exact hn
  refine ⟨α, by rw [List.length_set, List.length_set]; exact s.len, fun j d' e => ?_, fun j d' e => ?_, fun j d' e => ?_, fun j d' e => ?_, fun j k hj hk e => s.inj j k ((sub j).mp hj) ((sub k).mp hk) e, fun a => ?_, s.zt, s.ot, ⟨fun j e => ?_, fun j d e => ?_⟩⟩
  · rcases set_at e with ⟨rfl, q⟩ | ⟨hj, q⟩
    · cases q
    · obtain ⟨v, e1, r⟩ := s.val j d' q
      exact ⟨v, by rw [List.getElem?_set_ne (Ne.symm hj)]; exact e1, r⟩
  · rcases set_at e with ⟨rfl, q⟩ | ⟨hj, q⟩
    · cases q
    · obtain ⟨e1, n, r⟩ := s.own j d' q
      exact ⟨by rw [List.getElem?_set_ne (Ne.symm hj)]; exact e1, n, r⟩
  · rcases set_at e with ⟨rfl, q⟩ | ⟨hj, q⟩
    · cases q
    · obtain ⟨e1, n, c, ks, l, dx, vs, e2, e3, e4, r⟩ := s.slf j d' q
      refine ⟨by rw [List.getElem?_set_ne (Ne.symm hj)]; exact e1, n, c, ks, l, dx, vs, e2, e3, e4, r.weak (fun _ z => z) fun k d'' hk => ?_⟩
      by_cases hki : k = i
      · subst hki
        rw [hi] at hk
        cases hk
      · exact ⟨d'', by rw [List.getElem?_set_ne (Ne.symm hki)]; exact hk⟩
  · rcases set_at e with ⟨rfl, q⟩ | ⟨hj, q⟩
    · cases q
    · exact s.gho j d' q
  · rw [s.oeq]
    exact ⟨fun ⟨j, k, e⟩ => ⟨j, (sub j).mpr k, e⟩, fun ⟨j, k, e⟩ => ⟨j, (sub j).mp k, e⟩⟩
  · rcases set_at e with ⟨rfl, q⟩ | ⟨hj, q⟩
    · exact List.getElem?_set_self hσ
    · exact (noPtr_ok hp j _ q (.inl rfl)).elim
  · rcases set_at e with ⟨rfl, q⟩ | ⟨hj, q⟩
    · cases q
    · exact (noPtr_ok hp j _ q (.inr ⟨_, rfl⟩)).elim
theorem TS0.new {p : Addr} {us : List V} {F : List Addr} {ys : List D} (s : SR Y O ρ σ H0) (sm : Same H0 H') (hi : ρ[i]? = some none) (hn : i < Y.n) (hp : noPtr ρ = true) (h0 : H0 p = none) (h1 : H' p = some (.lst us)) (tr : TRep Y.G (fun a => Zo Y.Ze O a ∨ a ∈ p :: F) H' ys us F) (nd : (p :: F).Nodup) (nf : ∀ a ∈ F, H0 a = none) :
    TS0 Y i O (fun a => a ∈ p :: F) (ρ.set i (some .ptr)) ys (σ.set i (some (.ref p))) H' := by
  have fr0 : ∀ a, a ∈ p :: F → H0 a = none := fun a h => by
    rcases List.mem_cons.mp h with rfl | h
    · exact h0
    · exact nf a h
  have frn : ∀ a, a ∈ p :: F → H' a ≠ none := fun a h => by
    rcases List.mem_cons.mp h with rfl | h
    · rw [h1]; exact fun z => by cases z
    · obtain ⟨q, e⟩ := tr.cells a h
      rw [e]; exact fun z => by cases z
  have hlt : i < ρ.length := (List.getElem?_eq_some_iff.mp hi).1
  refine ⟨p, us, F, (s.blkS (E := fun a => a ∈ p :: F) sm fr0 frn).putp hi hn hp, List.getElem?_set_self hlt, h1, ?_, nd, fun x => Iff.rfl, fun x hx => ⟨fun z => s.zt x (.inl z) (fr0 x hx), fun z => s.zt x (.inr z) (fr0 x hx)⟩, fun j x e hx => ?_⟩
  · refine TRep.mono (H := H') (fun b o _ q => q) (fun a z => .inl ?_) (fun b _ o q => q) tr
    rcases z with (z | z) | z
    · exact .inl (.inl z)
    · exact .inr z
    · exact .inl (.inr z)
  · rcases set_at e with ⟨rfl, q⟩ | ⟨hj, q⟩
    · rfl
    · exact (noPtr_ok hp j _ q hx).elim
def empAt (i : Nat) (ρ : DEnv) : Bool := match ρ[i]? with | some none => true | _ => false
theorem empAt_ok (h : empAt i ρ = true) : ρ[i]? = some none := by
  unfold empAt at h
  split at h
  · assumption
  · cases h
variable {elt tg iter : Expr} {ifs : List Expr} {scope : Scope} {own : List (Str × Nat)} {pos : Pos} {fi : DI} {g : DG} {c : DT} {e : DE} {is : List Nat} {F : DEnv → List D → R Out} {rest : List Stmt}
end
end Tw

set_option maxHeartbeats 2000000
namespace Tw
open PySem PySem.Spec L2
open PyProof.Rows hiding St
def viewM (i : Nat) (ρ : DEnv) : Option (List D) → DEnv
  | some l => ρ.set i (some (.val (.lst l)))
  | none => ρ
def TSm (Y : Cy) (i : Nat) (O Ω : Addr → Prop) (ρ : DEnv) (m : Option (List D)) (σ : L2.St) (H : Hp) : Prop := match m with
  | some l => TS0 Y i O Ω ρ l σ H
  | none => SR Y O ρ σ H
section
variable {X : Cx} {Y : Cy} {O Ω : Addr → Prop} {ρ : DEnv} {l : List D} {m : Option (List D)} {σ : L2.St} {H H' : Hp} {i : Nat}
theorem TS0.same (t : TS0 Y i O Ω ρ l σ H) (s : Same H H') : TS0 Y i O Ω ρ l σ H' :=
  let ⟨a, vs, F, sr, hi, ha, tr, nd, om, ap, po⟩ := t
  ⟨a, vs, F, sr.same s, hi, s _ _ ha, TRep.mono (Same.sub s) (fun _ z => .inl z) (fun b _ o q => s _ _ q) tr, nd, om, ap, po⟩
theorem TSm.same (t : TSm Y i O Ω ρ m σ H) (s : Same H H') : TSm Y i O Ω ρ m σ H' := by
  cases m with
  | none => exact SR.same t s
  | some l => exact TS0.same t s
theorem TSm.view (t : TSm Y i O Ω ρ m σ H) : SR Y O (viewM i ρ m) σ H := by
  cases m with
  | none => exact t
  | some l => exact TS0.frz t
end
end Tw

set_option maxHeartbeats 400000
namespace Tw
open PySem PySem.Spec L2
open PyProof.Rows hiding St
mutual
def sepN (Ls : List (List D)) : D → Bool
  | .lst l => Ls.all (neL l) && sepNs Ls l
  | .dct _ l => sepNs Ls l
  | .scr _ => false
  | .gst _ => false
  | .tup l => sepNs Ls l
  | .obj _ _ l => sepNs Ls l
  | _ => true
def sepNs (Ls : List (List D)) : List D → Bool
  | [] => true
  | d :: l => sepN Ls d && sepNs Ls l
end
mutual
theorem Rep.sepN {G : Gc} {Z Z' : Addr → Prop} {H : Hp} {Ls : List (List D)} (z : ∀ a, Z' a → Z a ∨ ∃ l ∈ Ls, ∃ Z0 vs, H a = some (.lst vs) ∧ RepL G Z0 H l vs) : ∀ {d : D} {v : V}, sepN Ls d = true → Rep G Z H d v → Rep G Z' H d v
  | .non, v, _, h => h
  | .bl b, v, _, h => h
  | .int i, v, _, h => h
  | .str x, v, _, h => h
  | .cls n, v, _, h => h
  | .gst j, v, n, h => by cases n
  | .scr ns, v, n, h => by cases n
  | .lst l, v, n, h => by
    have n' : (Ls.all (neL l) && sepNs Ls l) = true := by unfold Tw.sepN at n; exact n
    obtain ⟨n1, n2⟩ := Bool.and_eq_true_iff.mp n'
    obtain ⟨a, vs, e, nz, t, r⟩ := h
    refine ⟨a, vs, e, fun q => (z a q).elim nz fun ⟨k, hk, Z0, us, t2, r2⟩ => ?_, t, RepL.sepN z n2 r⟩
    rw [t] at t2
    cases t2
    exact neL_ne r r2 (List.all_eq_true.mp n1 k hk)
  | .dct ks l, v, n, h => by
    obtain ⟨a, vs, e, nz, t, k, r⟩ := h
    exact ⟨a, vs, e, fun q => (z a q).elim nz fun ⟨_, _, _, us, t2, _⟩ => (by rw [t] at t2; cases t2), t, k, RepL.sepN z (by simpa [Tw.sepN] using n) r⟩
  | .tup l, v, n, h => by
    obtain ⟨a, vs, e, t, r⟩ := h
    refine ⟨a, vs, e, ?_, RepL.sepN z (by simpa [Tw.sepN] using n) r⟩
    rcases t with ⟨nz, t⟩ | t
    · exact .inl ⟨fun q => (z a q).elim nz fun ⟨_, _, _, us, t2, _⟩ => (by rw [t] at t2; cases t2), t⟩
    · exact .inr t
  | .obj c ks l, v, n, h => by
    obtain ⟨a, dx, vs, e, nz, t, k, r⟩ := h
    exact ⟨a, dx, vs, e, fun q => (z a q).elim nz fun ⟨_, _, _, us, t2, _⟩ => (by rw [t] at t2; cases t2), t, k, RepL.sepN z (by simpa [Tw.sepN] using n) r⟩
theorem RepL.sepN {G : Gc} {Z Z' : Addr → Prop} {H : Hp} {Ls : List (List D)} (z : ∀ a, Z' a → Z a ∨ ∃ l ∈ Ls, ∃ Z0 vs, H a = some (.lst vs) ∧ RepL G Z0 H l vs) : ∀ {ds : List D} {vs : List V}, sepNs Ls ds = true → RepL G Z H ds vs → RepL G Z' H ds vs
  | [], vs, _, h => h
  | d :: ds, vs, n, h => by
    obtain ⟨v, r, e, h1, h2⟩ := h
    obtain ⟨n1, n2⟩ := Bool.and_eq_true_iff.mp (by simpa [sepNs] using n)
    exact ⟨v, r, e, Rep.sepN z n1 h1, RepL.sepN z n2 h2⟩
end
end Tw

set_option maxHeartbeats 400000
namespace Tw
open PySem PySem.Spec L2
open PyProof.Rows hiding St
end Tw

set_option maxHeartbeats 400000
namespace Tw
open PySem PySem.Spec L2
open PyProof.Rows hiding St
end Tw

set_option maxHeartbeats 2000000
namespace Tw
open PySem PySem.Spec L2
open PyProof.Rows hiding St
/-- which lists are the def's own: v a value, o f an own list, its item i as f i says -/
inductive Msk where
  | v
  | o (f : Nat → Msk)
def Msk.at : Msk → Nat → Msk
  | .v, _ => .v
  | .o f, i => f i
def mskP : Msk → List Nat → Msk
  | m, [] => m
  | m, j :: js => mskP (m.at j) js
theorem mskP_v : ∀ p : List Nat, mskP .v p = .v
  | [] => rfl
  | _ :: p => mskP_v p
/-- the value v stands for d; the own lists are the cells F, each met once -/
def TR (G : Gc) (Z : Addr → Prop) (H : Hp) : Msk → D → V → (Addr → Prop) → Prop
  | .v, d, v, F => Rep G Z H d v ∧ ∀ x, ¬ F x
  | .o f, d, v, F => ∃ (l : List D) (a : Addr) (vs : List V) (C : Nat → Addr → Prop), d = .lst l ∧ v = .ref a ∧ H a = some (.lst vs) ∧ vs.length = l.length ∧ (∀ x, F x ↔ x = a ∨ ∃ i, i < l.length ∧ C i x) ∧ (∀ i, i < l.length → ¬ C i a) ∧ (∀ i j x, i < l.length → j < l.length → C i x → C j x → i = j) ∧ ∀ i d v, l[i]? = some d → vs[i]? = some v → TR G Z H (f i) d v (C i)
section
variable {G : Gc} {Z Z' : Addr → Prop} {H H' : Hp}
theorem lt_of_some {α : Type} {l : List α} {i : Nat} {x : α} (h : l[i]? = some x) : i < l.length := (List.getElem?_eq_some_iff.mp h).1
theorem TR.mono (s : Sub Z H H') (z : ∀ a, Z' a → Z a ∨ H a = none) : ∀ {m : Msk} {d : D} {v : V} {F : Addr → Prop}, (∀ b, F b → ∀ o, H b = some o → H' b = some o) → TR G Z H m d v F → TR G Z' H' m d v F
  | .v, d, v, F, _, ⟨r, n⟩ => ⟨r.mono s z, n⟩
  | .o f, d, v, F, k, ⟨l, a, vs, C, e1, e2, h, hl, hF, n1, n2, hi⟩ => ⟨l, a, vs, C, e1, e2, k a ((hF a).mpr (.inl rfl)) _ h, hl, hF, n1, n2, fun i d v ed ev => TR.mono s z (m := f i) (fun b hb o q => k b ((hF b).mpr (.inr ⟨i, lt_of_some ed, hb⟩)) o q) (hi i d v ed ev)⟩
theorem TR.congr {m : Msk} {d : D} {v : V} {F F' : Addr → Prop} (h : ∀ x, F x ↔ F' x) (r : TR G Z H m d v F) : TR G Z H m d v F' := by
  cases m with
  | v => exact ⟨r.1, fun x q => r.2 x ((h x).mpr q)⟩
  | o f =>
    obtain ⟨l, a, vs, C, e1, e2, hh, hl, hF, n1, n2, hi⟩ := r
    exact ⟨l, a, vs, C, e1, e2, hh, hl, fun x => (h x).symm.trans (hF x), n1, n2, hi⟩
theorem TR.cells : ∀ {m : Msk} {d : D} {v : V} {F : Addr → Prop}, TR G Z H m d v F → ∀ b, F b → ∃ us, H b = some (.lst us)
  | .v, d, v, F, ⟨_, n⟩, b, hb => absurd hb (n b)
  | .o f, d, v, F, ⟨l, a, vs, C, e1, e2, h, hl, hF, n1, n2, hi⟩, b, hb => by
    rcases (hF b).mp hb with rfl | ⟨i, hil, hc⟩
    · exact ⟨vs, h⟩
    · exact TR.cells (m := f i) (hi i l[i] vs[i] (List.getElem?_eq_getElem hil) (List.getElem?_eq_getElem (by omega))) b hc
theorem RepL.of_get : ∀ {l : List D} {vs : List V}, vs.length = l.length → (∀ (i : Nat) (d : D) (v : V), l[i]? = some d → vs[i]? = some v → Rep G Z H d v) → RepL G Z H l vs
  | [], [], _, _ => rfl
  | d :: l, [], h, _ => by cases h
  | [], v :: vs, h, _ => by cases h
  | d :: l, v :: vs, h, k => ⟨v, vs, rfl, k 0 d v rfl rfl, RepL.of_get (by simpa using h) fun i d' v' e1 e2 => k (i + 1) d' v' e1 e2⟩
theorem TR.rep (z : ∀ a, Z' a → Z a) : ∀ {m : Msk} {d : D} {v : V} {F : Addr → Prop}, (∀ b, F b → ¬ Z' b) → TR G Z H m d v F → Rep G Z' H d v
  | .v, d, v, F, _, ⟨r, _⟩ => r.weak z
  | .o f, d, v, F, k, ⟨l, a, vs, C, e1, e2, h, hl, hF, n1, n2, hi⟩ => by
    subst e1; subst e2
    exact ⟨a, vs, rfl, k a ((hF a).mpr (.inl rfl)), h, RepL.of_get hl fun i d v ed ev => TR.rep z (m := f i) (fun b hb => k b ((hF b).mpr (.inr ⟨i, lt_of_some ed, hb⟩))) (hi i d v ed ev)⟩
end
def getP : D → List Nat → Option D
  | d, [] => some d
  | .lst l, j :: js => match l[j]? with
    | some d => getP d js
    | none => none
  | _, _ :: _ => none
def setP : D → List Nat → D → D
  | _, [], x => x
  | .lst l, j :: js, x => .lst (l.set j (setP (l.getD j .non) js x))
  | d, _ :: _, _ => d
def pathV (H : Hp) : V → List Nat → V → Prop
  | v, [], w => v = w
  | v, j :: js, w => ∃ a vs u, v = .ref a ∧ H a = some (.lst vs) ∧ vs[j]? = some u ∧ pathV H u js w
section
variable {G : Gc} {Z : Addr → Prop} {H : Hp}
theorem TR.upp {x : List D} {f : Nat → Msk} : ∀ {p : List Nat} {m : Msk} {d : D} {v : V} {F : Addr → Prop}, TR G Z H m d v F → getP d p = some (.lst x) → mskP m p = .o f →
    ∃ b Fb, pathV H v p (.ref b) ∧ (∀ c, Fb c → F c) ∧ TR G Z H (.o f) (.lst x) (.ref b) Fb ∧
      ∀ (Z' : Addr → Prop) (H' : Hp) (x' : List D) (Fb' : Addr → Prop), Sub Z H H' → (∀ a, Z' a → Z a ∨ H a = none) → (∀ c, F c → ¬ Fb c → ∀ o, H c = some o → H' c = some o) → (∀ c, Fb' c → F c → Fb c) → TR G Z' H' (.o f) (.lst x') (.ref b) Fb' →
        TR G Z' H' m (setP d p (.lst x')) v (fun c => (F c ∧ ¬ Fb c) ∨ Fb' c)
  | [], m, d, v, F, h, e, em => by
    cases e
    have em : m = .o f := em
    subst em
    have h0 := h
    obtain ⟨l, a, vs, C, e1, e2, hh, hl, hF, n1, n2, hi⟩ := h
    subst e2
    refine ⟨a, F, rfl, fun _ z => z, h0, fun Z' H' x' Fb' _ _ _ _ r => r.congr fun c => ⟨.inr, fun q => q.elim (fun z => absurd z.1 z.2) id⟩⟩
  | j :: p, m, d, v, F, h, e, em => by
    cases m with
    | v =>
      have : mskP .v (j :: p) = .o f := em
      rw [mskP_v] at this
      cases this
    | o g =>
      obtain ⟨l, a, vs, C, e1, e2, hh, hl, hF, n1, n2, hi⟩ := h
      subst e1; subst e2
      have e : (match l[j]? with | some d => getP d p | none => none) = some (.lst x) := e
      cases ej : l[j]? with
      | none => rw [ej] at e; cases e
      | some dj =>
        rw [ej] at e
        have hj := lt_of_some ej
        have ev : vs[j]? = some (vs[j]'(by omega)) := List.getElem?_eq_getElem (by omega)
        have hgd : l.getD j .non = dj := by rw [List.getD_eq_getElem?_getD, ej]; rfl
        obtain ⟨b, Fb, q1, q2, q3, q4⟩ := TR.upp (m := g j) (hi j dj _ ej ev) e em
        refine ⟨b, Fb, ⟨a, vs, _, rfl, hh, ev, q1⟩, fun c hc => (hF c).mpr (.inr ⟨j, hj, q2 c hc⟩), q3, fun Z' H' x' Fb' sub zz ke fr r => ?_⟩
        have inF : ∀ {i c}, i < l.length → C i c → F c := fun {i c} hil hc => (hF c).mpr (.inr ⟨i, hil, hc⟩)
        have nFa : ¬ Fb a := fun z => n1 j hj (q2 a z)
        have rj := q4 Z' H' x' Fb' sub zz (fun c hc n o q => ke c (inF hj hc) n o q) (fun c hc k => fr c hc (inF hj k)) r
        obtain ⟨C', cj, cn⟩ : ∃ C' : Nat → Addr → Prop, C' j = (fun c => (C j c ∧ ¬ Fb c) ∨ Fb' c) ∧ ∀ i, i ≠ j → C' i = C i := ⟨fun i => if i = j then (fun c => (C j c ∧ ¬ Fb c) ∨ Fb' c) else C i, if_pos rfl, fun i h => if_neg h⟩
        refine ⟨l.set j (setP dj p (.lst x')), a, vs, C', by show D.lst (l.set j (setP (l.getD j .non) p (.lst x'))) = _; rw [hgd], rfl, ke a ((hF a).mpr (.inl rfl)) nFa _ hh, by rw [List.length_set]; exact hl, fun c => ?_, fun i hil => ?_, fun i k c hil hkl hi' hk' => ?_, fun i di vi ed evi => ?_⟩
        · rw [List.length_set]
          constructor
          · rintro (⟨hc, hn⟩ | hc)
            · rcases (hF c).mp hc with rfl | ⟨i, hil, hci⟩
              · exact .inl rfl
              · by_cases hij : i = j
                · subst hij
                  exact .inr ⟨i, hil, by rw [cj]; exact .inl ⟨hci, hn⟩⟩
                · exact .inr ⟨i, hil, by rw [cn i hij]; exact hci⟩
            · exact .inr ⟨j, hj, by rw [cj]; exact .inr hc⟩
          · rintro (rfl | ⟨i, hil, hci⟩)
            · exact .inl ⟨(hF _).mpr (.inl rfl), nFa⟩
            · by_cases hij : i = j
              · subst hij
                rw [cj] at hci
                rcases hci with ⟨h1, h2⟩ | h1
                · exact .inl ⟨inF hil h1, h2⟩
                · exact .inr h1
              · rw [cn i hij] at hci
                exact .inl ⟨inF hil hci, fun z => hij (n2 i j c hil hj hci (q2 c z))⟩
        · rw [List.length_set] at hil
          by_cases hij : i = j
          · subst hij
            rw [cj]
            rintro (⟨h1, _⟩ | h1)
            · exact n1 i hil h1
            · exact nFa (fr a h1 ((hF a).mpr (.inl rfl)))
          · rw [cn i hij]
            exact n1 i hil
        · rw [List.length_set] at hil hkl
          have key : ∀ y, y < l.length → y ≠ j → C y c → ((C j c ∧ ¬ Fb c) ∨ Fb' c) → False := fun y hy hyj hc hz => by
            rcases hz with ⟨h1, _⟩ | h1
            · exact hyj (n2 y j c hy hj hc h1)
            · exact hyj (n2 y j c hy hj hc (q2 c (fr c h1 (inF hy hc))))
          by_cases hij : i = j <;> by_cases hkj : k = j
          · rw [hij, hkj]
          · rw [hij, cj] at hi'
            rw [cn k hkj] at hk'
            exact (key k hkl hkj hk' hi').elim
          · rw [cn i hij] at hi'
            rw [hkj, cj] at hk'
            exact (key i hil hij hi' hk').elim
          · rw [cn i hij] at hi'
            rw [cn k hkj] at hk'
            exact n2 i k c hil hkl hi' hk'
        · by_cases hij : i = j
          · subst hij
            rw [List.getElem?_set_self hj] at ed
            cases ed
            rw [ev] at evi
            cases evi
            rw [cj]
            exact rj
          · rw [List.getElem?_set_ne (Ne.symm hij)] at ed
            rw [cn i hij]
            have hil := lt_of_some ed
            exact TR.mono sub zz (fun c hc o q => ke c (inF hil hc) (fun z => hij (n2 i j c hil hj hc (q2 c z))) o q) (hi i di vi ed evi)
/-- the node's list -/
theorem TR.node {f : Nat → Msk} {x : List D} {b : Addr} {F : Addr → Prop} (h : TR G Z H (.o f) (.lst x) (.ref b) F) : F b ∧ ∃ us, H b = some (.lst us) ∧ us.length = x.length := by
  obtain ⟨l, a, vs, C, e1, e2, hh, hl, hF, n1, n2, hi⟩ := h
  cases e1; cases e2
  exact ⟨(hF _).mpr (.inl rfl), vs, hh, hl⟩
theorem TR.put {f : Nat → Msk} {x : List D} {b : Addr} {F : Addr → Prop} {us : List V} (h : TR G Z H (.o f) (.lst x) (.ref b) F) (hb : Z b) (hu : H b = some (.lst us)) {k : Nat} {w : D} {u : V} (hk : k < x.length) (hf : f k = .v) (r : Rep G Z H w u) : TR G Z (upd H b (.lst (us.set k u))) (.o f) (.lst (x.set k w)) (.ref b) F := by
  obtain ⟨l, a, vs, C, e1, e2, hh, hl, hF, n1, n2, hi⟩ := h
  cases e1; cases e2
  rw [hu] at hh
  cases hh
  have sub : Sub Z H (upd H b (.lst (us.set k u))) := fun c o n q => by
    rw [upd_ne fun z => n (by rw [z]; exact hb)]; exact q
  refine ⟨_, b, us.set k u, C, rfl, rfl, upd_same, by rw [List.length_set, List.length_set]; exact hl, by rw [List.length_set]; exact hF, by rw [List.length_set]; exact n1, by rw [List.length_set]; exact n2, fun i di vi ed ev => ?_⟩
  by_cases hik : i = k
  · subst hik
    rw [List.getElem?_set_self hk] at ed
    rw [List.getElem?_set_self (by omega)] at ev
    cases ed; cases ev
    have old := hi i x[i] us[i] (List.getElem?_eq_getElem hk) (List.getElem?_eq_getElem (by omega))
    rw [hf] at old ⊢
    exact ⟨Rep.mono sub (fun _ z => .inl z) r, old.2⟩
  · rw [List.getElem?_set_ne (Ne.symm hik)] at ed ev
    exact TR.mono sub (fun _ z => .inl z) (fun c hc o q => by
      rw [upd_ne fun z => n1 i (lt_of_some ed) (by rw [← z]; exact hc)]; exact q) (hi i di vi ed ev)
theorem TR.snoc {Z' : Addr → Prop} {H' : Hp} {f : Nat → Msk} {x : List D} {b : Addr} {F Fw : Addr → Prop} {us : List V} {w : D} {u : V} (h : TR G Z H (.o f) (.lst x) (.ref b) F) (hu : H b = some (.lst us)) (hu' : H' b = some (.lst (us ++ [u]))) (sub : Sub Z H H') (z : ∀ a, Z' a → Z a ∨ H a = none) (ke : ∀ c, F c → c ≠ b → ∀ o, H c = some o → H' c = some o) (fw : ∀ a, Fw a → ¬ F a) (r : TR G Z' H' (f x.length) w u Fw) : TR G Z' H' (.o f) (.lst (x ++ [w])) (.ref b) (fun a => F a ∨ Fw a) := by
  obtain ⟨l, a, vs, C, e1, e2, hh, hl, hF, n1, n2, hi⟩ := h
  cases e1; cases e2
  rw [hu] at hh
  cases hh
  have inF : ∀ {i c}, i < x.length → C i c → F c := fun {i c} hil hc => (hF c).mpr (.inr ⟨i, hil, hc⟩)
  obtain ⟨C', cj, cn⟩ : ∃ C' : Nat → Addr → Prop, C' x.length = Fw ∧ ∀ i, i ≠ x.length → C' i = C i := ⟨fun i => if i = x.length then Fw else C i, if_pos rfl, fun i h => if_neg h⟩
  refine ⟨_, b, us ++ [u], C', rfl, rfl, hu', by rw [List.length_append, List.length_append, hl]; rfl, fun c => ?_, fun i hil => ?_, fun i k c hil hkl hi' hk' => ?_, fun i di vi ed ev => ?_⟩
  · rw [List.length_append, List.length_singleton]
    constructor
    · rintro (hc | hc)
      · rcases (hF c).mp hc with rfl | ⟨i, hil, hci⟩
        · exact .inl rfl
        · exact .inr ⟨i, by omega, by rw [cn i (by omega)]; exact hci⟩
      · exact .inr ⟨x.length, by omega, by rw [cj]; exact hc⟩
    · rintro (rfl | ⟨i, hil, hci⟩)
      · exact .inl ((hF _).mpr (.inl rfl))
      · by_cases hij : i = x.length
        · rw [hij, cj] at hci; exact .inr hci
        · rw [cn i hij] at hci; exact .inl (inF (by omega) hci)
  · rw [List.length_append, List.length_singleton] at hil
    by_cases hij : i = x.length
    · rw [hij, cj]; exact fun q => fw b q ((hF b).mpr (.inl rfl))
    · rw [cn i hij]; exact n1 i (by omega)
  · rw [List.length_append, List.length_singleton] at hil hkl
    by_cases hij : i = x.length <;> by_cases hkj : k = x.length
    · omega
    · rw [hij, cj] at hi'
      rw [cn k hkj] at hk'
      exact absurd (inF (by omega) hk') (fw c hi')
    · rw [cn i hij] at hi'
      rw [hkj, cj] at hk'
      exact absurd (inF (by omega) hi') (fw c hk')
    · rw [cn i hij] at hi'
      rw [cn k hkj] at hk'
      exact n2 i k c (by omega) (by omega) hi' hk'
  · by_cases hij : i = x.length
    · subst hij
      rw [List.getElem?_append_right (Nat.le_refl _), Nat.sub_self] at ed
      rw [List.getElem?_append_right (by omega), hl, Nat.sub_self] at ev
      cases ed; cases ev
      rw [cj]
      exact r
    · have hil : i < x.length := by
        have := lt_of_some ed
        rw [List.length_append, List.length_singleton] at this
        omega
      rw [List.getElem?_append_left hil] at ed
      rw [List.getElem?_append_left (by omega)] at ev
      rw [cn i hij]
      exact TR.mono sub z (fun c hc o q => ke c (inF hil hc) (fun q => n1 i hil (by rw [← q]; exact hc)) o q) (hi i di vi ed ev)
end
end Tw

set_option maxHeartbeats 2000000
namespace Tw
open PySem PySem.Spec L2
open PyProof.Rows hiding St
/-- the name i is hidden; it holds the tree d of shape m, its cells are Ω -/
def TH (Y : Cy) (i : Nat) (m : Msk) (O Ω : Addr → Prop) (ρ : DEnv) (d : D) (σ : L2.St) (H : Hp) : Prop :=
  ∃ a, SR (Y.tz (Zo Y.Ze Ω) a) O ρ σ H ∧ ρ[i]? = some (some .ptr) ∧ TR Y.G (Zo (Zo Y.Ze Ω) O) H m d (.ref a) Ω ∧ (∀ x, Ω x → ¬ Y.Ze x ∧ ¬ O x) ∧ ∀ j x, ρ[j]? = some (some x) → (x = .ptr ∨ ∃ d, x = .pin d) → j = i
abbrev DH := DEnv → D → R (DEnv × D)
def liftH (i : Nat) (F : DS) : DH := fun ρ d => match F ρ with
  | .ok (.nx ρ') => if ptrAt i ρ' then .ok (ρ', d) else .no
  | _ => .no
def seqH (G1 G2 : DH) : DH := fun ρ d => (G1 ρ d).bind fun p => G2 p.1 p.2
def forHL (i : Nat) (g : DG) (cl : List Nat) (G : DH) : List D → DEnv → D → R (DEnv × D)
  | [], ρ, d => .ok (ρ, d)
  | x :: xs, ρ, d => (g x ρ).bind fun ρ1 => if ptrAt i ρ1 then (G ρ1 d).bind fun p => if ptrAt i (clrD cl p.1) then forHL i g cl G xs (clrD cl p.1) p.2 else .no else .no
def forH (i : Nat) (fi : DI) (g : DG) (cl : List Nat) (G : DH) : DH := fun ρ d => (fi ρ).bind fun l => if ptrAt i (clrD cl ρ) then forHL i g cl G l (clrD cl ρ) d else .no
/-- x.append([f1, [..]]), the names is are given out first -/
def appH (i : Nat) (is : List Nat) (f1 f2 : DE) : DH := fun ρ d => match d with
  | .lst L => if L.length < lineD ∧ ptrAt i (is.foldl (fun r i => frzD i r) ρ) = true then (f1 (is.foldl (fun r i => frzD i r) ρ)).bind fun d1 => (f2 (is.foldl (fun r i => frzD i r) ρ)).bind fun d2 => match d2 with
    | .lst x => .ok (is.foldl (fun r i => frzD i r) ρ, .lst (L ++ [.lst [d1, .lst x]]))
    | _ => .no
    else .no
  | _ => .no
section
variable {X : Cx} {Y : Cy} {i : Nat} {m : Msk} {O Ω O' Ω' : Addr → Prop} {ρ ρ' : DEnv} {d : D} {σ σ' : L2.St} {H H' : Hp}
theorem TH.same (t : TH Y i m O Ω ρ d σ H) (s : Same H H') : TH Y i m O Ω ρ d σ H' := by
  obtain ⟨a, sr, hi, tr, ap, po⟩ := t
  exact ⟨a, sr.same s, hi, TR.mono (Same.sub s) (fun _ z => .inl z) (fun b _ o q => s _ _ q) tr, ap, po⟩
/-- what a step of the others leaves -/
theorem TH.step {a : Addr} (st : Stp O H O' H') (s' : SR (Y.tz (Zo Y.Ze Ω) a) O' ρ' σ' H') (hp : ptrAt i ρ' = true) (tr : TR Y.G (Zo (Zo Y.Ze Ω) O) H m d (.ref a) Ω) (ap : ∀ x, Ω x → ¬ Y.Ze x ∧ ¬ O x) :
    Stp (Zo Ω O) H (Zo Ω O') H' ∧ TH Y i m O' Ω ρ' d σ' H' := by
  obtain ⟨p1, p2⟩ := ptrAt_ok hp
  refine ⟨⟨fun c o n e => st.1 c o (fun z => n (.inr z)) e, fun c z => z.elim (fun z => .inl (.inl z)) fun z => (st.2 c z).imp .inr id⟩, a, s', p1, ?_, fun x hx => ⟨(ap x hx).1, fun z => ?_⟩, p2⟩
  · exact TR.mono (fun c o n e => st.1 c o (fun z => n (.inr z)) e) (fun c z => z.elim (fun z => .inl (.inl z)) fun z => (st.2 c z).imp .inr id) (fun b hb o e => st.1 b o (ap b hb).2 e) tr
  · obtain ⟨us, e⟩ := TR.cells tr x hx
    rcases st.2 x z with z | z
    · exact (ap x hx).2 z
    · rw [e] at z; cases z
end
end Tw

set_option maxHeartbeats 2000000
namespace Tw
open PySem PySem.Spec L2
open PyProof.Rows hiding St
section
variable {X : Cx} {Y : Cy} {i : Nat} {O Ω : Addr → Prop} {ρ : DEnv} {σ : L2.St} {H H' : Hp}
theorem zo_assoc {Ze Ω E : Addr → Prop} : (fun x => Zo Ze Ω x ∨ E x) = Zo Ze fun c => Ω c ∨ E c := funext fun x => propext ⟨fun z => z.elim (fun z => z.elim .inl fun z => .inr (.inl z)) fun z => .inr (.inr z), fun z => z.elim (fun z => .inl (.inl z)) fun z => z.elim (fun z => .inl (.inr z)) .inr⟩
theorem SR.ofBlk {Ze Z1 : Addr → Prop} {a : Addr} (s : SR ((Y.tz Z1 a).blk Ze) O ρ σ H) : SR (Y.tz Ze a) O ρ σ H := by
  obtain ⟨α, s⟩ := s
  exact ⟨α, s.len, s.val, s.own, s.slf, s.gho, s.inj, s.oeq, s.zt, s.ot, s.ptr⟩
/-- a row is put at the end -/
theorem TH.snoc {a : Addr} {L : List D} {w : D} {n : Addr} {E : Addr → Prop} {us0 : List V} {f : Nat → Msk} {H3 : Hp} (sr : SR (Y.tz (Zo Y.Ze Ω) a) O ρ σ H) (hp : ptrAt i ρ = true) (tr : TR Y.G (Zo (Zo Y.Ze Ω) O) H (.o f) (.lst L) (.ref a) Ω) (ap : ∀ x, Ω x → ¬ Y.Ze x ∧ ¬ O x) (sm : Same H H3) (h0 : H a = some (.lst us0)) (hE : ∀ c, E c → H c = none ∧ H3 c ≠ none)
    (r : TR Y.G (Zo (Zo Y.Ze fun c => Ω c ∨ E c) O) (upd H3 a (.lst (us0 ++ [.ref n]))) (f L.length) w (.ref n) E) :
    Stp (Zo Ω O) H (Zo (fun c => Ω c ∨ E c) O) (upd H3 a (.lst (us0 ++ [.ref n]))) ∧ TH Y i (.o f) O (fun c => Ω c ∨ E c) ρ (.lst (L ++ [w])) σ (upd H3 a (.lst (us0 ++ [.ref n]))) := by
  obtain ⟨p1, p2⟩ := ptrAt_ok hp
  have Oa : Ω a := (TR.node tr).1
  have ex : ∀ c, Ω c → H c ≠ none := fun c hc => by
    obtain ⟨us, e⟩ := TR.cells tr c hc
    rw [e]; exact fun z => by cases z
  refine ⟨⟨fun c o nn e => ?_, fun c z => ?_⟩, a, ?_, p1, ?_, fun x hx => ?_, p2⟩
  · rw [upd_ne fun z => nn (.inl (by rw [z]; exact Oa))]
    exact sm _ _ e
  · rcases z with (z | z) | z
    · exact .inl (.inl z)
    · exact .inr (hE c z).1
    · exact .inl (.inr z)
  · have s2 : SR ((Y.tz (Zo Y.Ze Ω) a).blk fun x => Zo Y.Ze Ω x ∨ E x) O ρ σ H3 := SR.blkS (Y := Y.tz (Zo Y.Ze Ω) a) sr sm (fun c z => (hE c z).1) fun c z => (hE c z).2
    have s3 := s2.hid (b := a) (o := .lst (us0 ++ [.ref n])) (.inl (.inr Oa)) (ap a Oa).2
    rw [zo_assoc] at s3
    exact s3.ofBlk
  · refine TR.snoc (H := H) (Z := Zo (Zo Y.Ze Ω) O) tr h0 upd_same (fun c o nn e => ?_) (fun c z => ?_) (fun c hc ne o e => ?_) (fun c hc z => ex c z (hE c hc).1) r
    · rw [upd_ne fun z => nn (.inl (.inr (by rw [z]; exact Oa)))]
      exact sm _ _ e
    · rcases z with (z | z | z) | z
      · exact .inl (.inl (.inl z))
      · exact .inl (.inl (.inr z))
      · exact .inr (hE c z).1
      · exact .inl (.inr z)
    · rw [upd_ne ne]
      exact sm _ _ e
  · rcases hx with hx | hx
    · exact ap x hx
    · exact ⟨fun z => sr.zt x (.inl (.inl z)) (hE x hx).1, fun z => sr.zt x (.inr z) (hE x hx).1⟩
variable {a1 a2 : Expr} {x : Str} {f1 f2 : DE} {p pos pos' apos cpos : Pos}
end
end Tw

set_option maxHeartbeats 2000000
namespace Tw
open PySem PySem.Spec L2
open PyProof.Rows hiding St
section
variable {Y : Cy} {O : Addr → Prop} {ρ : DEnv} {σ : L2.St} {H H' : Hp} {α : Nat → Addr}
/-- a name's own list leaves the state -/
theorem SRa.out {j : Nat} {d : D} (s : SRa Y O α ρ σ H) (hj : ρ[j]? = some (some (.own d))) : O (α j) ∧ SRa Y (fun c => O c ∧ c ≠ α j) α (ρ.set j none) σ H := by
  have oj : isOwn ρ j := ⟨d, .inl hj⟩
  have sub : ∀ k, isOwn (ρ.set j none) k → isOwn ρ k ∧ k ≠ j := fun k h => by
    rcases isOwn_set h with ⟨_, d, k | k | k⟩ | ⟨n, k⟩
    · cases k
    · cases k
    · cases k
    · exact ⟨k, n⟩
  have sup : ∀ k, isOwn ρ k → k ≠ j → isOwn (ρ.set j none) k := fun k ⟨d, h⟩ n => ⟨d, by rw [List.getElem?_set_ne (Ne.symm n)]; exact h⟩
  have zz : ∀ a, Zo Y.Ze (fun c => O c ∧ c ≠ α j) a → Zo Y.Ze O a := fun a z => z.imp id And.left
  refine ⟨(s.oeq _).mpr ⟨j, oj, rfl⟩, by rw [List.length_set]; exact s.len, fun k d e => ?_, fun k d e => ?_, fun k d e => ?_, fun k d e => ?_, fun k l hk hl e => s.inj k l (sub k hk).1 (sub l hl).1 e, fun a => ⟨fun ⟨h, n⟩ => ?_, fun ⟨k, h, e⟩ => ?_⟩, s.zt, fun a h => s.ot a h.1, ptrA s.ptr rfl fun _ _ r => r.weak zz⟩
  · rcases set_at e with ⟨_, q⟩ | ⟨_, q⟩
    · cases q
    · obtain ⟨v, e1, r⟩ := s.val k d q
      exact ⟨v, e1, r.weak zz⟩
  · rcases set_at e with ⟨_, q⟩ | ⟨_, q⟩
    · cases q
    · obtain ⟨e1, n, r⟩ := s.own k d q
      exact ⟨e1, n, r.weak zz⟩
  · rcases set_at e with ⟨_, q⟩ | ⟨_, q⟩
    · cases q
    · obtain ⟨e1, n, c, ks, l, dx, vs, e2, e3, e4, r⟩ := s.slf k d q
      refine ⟨e1, n, c, ks, l, dx, vs, e2, e3, e4, r.weak zz fun k d' hk => ?_⟩
      by_cases hki : k = j
      · subst hki
        rw [hj] at hk
        cases hk
      · exact ⟨d', by rw [List.getElem?_set_ne (Ne.symm hki)]; exact hk⟩
  · rcases set_at e with ⟨_, q⟩ | ⟨_, q⟩
    · cases q
    · obtain ⟨r, k⟩ := s.gho k d q
      exact ⟨r.weak zz, k⟩
  · obtain ⟨k, hk, e⟩ := (s.oeq a).mp h
    exact ⟨k, sup k hk fun z => n (by rw [← e, z]), e⟩
  · obtain ⟨h1, h2⟩ := sub k h
    refine ⟨(s.oeq a).mpr ⟨k, h1, e⟩, fun z => h2 (s.inj k j h1 oj (by rw [e, z]))⟩
end
def nextH : DH := fun ρ d => .ok (ρ, d)
end Tw

set_option maxHeartbeats 2000000
namespace Tw
open PySem PySem.Spec L2
open PyProof.Rows hiding St
/-- is each list in the slot told apart from the lists Ls -/
def sepSl (Ls : List (List D)) : Option Slot → Bool
  | none => true
  | some (.val d) => sepN Ls d
  | some (.own (.lst l)) => sepNs Ls l
  | some .ptr => true
  | _ => false
def sepS (Ls : List (List D)) (ρ : DEnv) : Bool := ρ.all (sepSl Ls)
section
variable {Y : Cy} {O : Addr → Prop} {ρ : DEnv} {σ : L2.St} {H H' : Hp} {i : Nat} {a : Addr} {Ze : Addr → Prop} {d : D}
theorem isOwn_ptr {x : Slot} (hx : (∀ d, x ≠ .own d) ∧ (∀ d, x ≠ .slf d) ∧ ∀ d, x ≠ .gho d) {y : Slot} (hy : (∀ d, y ≠ .own d) ∧ (∀ d, y ≠ .slf d) ∧ ∀ d, y ≠ .gho d) (hi : ρ[i]? = some (some x)) (j : Nat) : isOwn (ρ.set i (some y)) j ↔ isOwn ρ j := by
  constructor
  · intro h
    rcases isOwn_set h with ⟨_, d, k | k | k⟩ | ⟨_, k⟩
    · exact (hy.1 _ (Option.some.inj k)).elim
    · exact (hy.2.1 _ (Option.some.inj k)).elim
    · exact (hy.2.2 _ (Option.some.inj k)).elim
    · exact k
  · rintro ⟨d, h⟩
    have n : j ≠ i := fun z => by
      subst z
      rw [hi] at h
      rcases h with h | h | h
      · exact hx.1 _ (Option.some.inj (Option.some.inj h))
      · exact hx.2.1 _ (Option.some.inj (Option.some.inj h))
      · exact hx.2.2 _ (Option.some.inj (Option.some.inj h))
    refine ⟨d, ?_⟩
    rw [List.getElem?_set_ne (Ne.symm n)]
    exact h
/-- the slot of a pinned name changes, what it holds does not -/
theorem SR.reslot {x y : Slot} {Y' : Cy} (hY : Y'.G = Y.G ∧ Y'.Ze = Y.Ze ∧ Y'.sa = Y.sa ∧ Y'.n = Y.n) (hx : x = .ptr ∨ ∃ d, x = .pin d) (hi : ρ[i]? = some (some x)) (hy : y = .ptr ∨ (∃ d, y = .pin d) ∨ ∃ d, y = .val d)
    (hv : ∀ d, y = .val d → ∃ v, σ[i]? = some (some v) ∧ Rep Y.G (Zo Y.Ze O) H d v) (hp : SR Y O ρ σ H → PtrOk Y' O (ρ.set i (some y)) σ H) (s : SR Y O ρ σ H) : SR Y' O (ρ.set i (some y)) σ H := by
  have po := hp s
  obtain ⟨α, s⟩ := s
  obtain ⟨G, Ze, sa, E, lv, n, ca, pt⟩ := Y
  obtain ⟨G', Ze', sa', E', lv', n', ca', pt'⟩ := Y'
  obtain ⟨h1, h2, h3, h4⟩ := hY
  dsimp only at h1 h2 h3 h4
  subst h1; subst h2; subst h3; subst h4
  have nx : (∀ d, x ≠ .own d) ∧ (∀ d, x ≠ .slf d) ∧ ∀ d, x ≠ .gho d := by
    rcases hx with rfl | ⟨_, rfl⟩ <;> exact ⟨fun _ z => (by cases z), fun _ z => (by cases z), fun _ z => (by cases z)⟩
  have ny : (∀ d, y ≠ .own d) ∧ (∀ d, y ≠ .slf d) ∧ ∀ d, y ≠ .gho d := by
    rcases hy with rfl | ⟨_, rfl⟩ | ⟨_, rfl⟩ <;> exact ⟨fun _ z => (by cases z), fun _ z => (by cases z), fun _ z => (by cases z)⟩
  have ow := isOwn_ptr (ρ := ρ) nx ny hi
  refine ⟨α, by rw [List.length_set]; exact s.len, fun j d e => ?_, fun j d e => ?_, fun j d e => ?_, fun j d e => ?_, fun j k hj hk e => s.inj j k ((ow j).mp hj) ((ow k).mp hk) e, fun c => (s.oeq c).trans ⟨fun ⟨j, h, e⟩ => ⟨j, (ow j).mpr h, e⟩, fun ⟨j, h, e⟩ => ⟨j, (ow j).mp h, e⟩⟩, s.zt, s.ot, po⟩
  · rcases set_at e with ⟨rfl, q⟩ | ⟨_, q⟩
    · exact hv d (Option.some.inj q.symm)
    · exact s.val j d q
  · rcases set_at e with ⟨_, q⟩ | ⟨_, q⟩
    · exact (ny.1 _ (Option.some.inj q.symm)).elim
    · exact s.own j d q
  · rcases set_at e with ⟨_, q⟩ | ⟨_, q⟩
    · exact (ny.2.1 _ (Option.some.inj q.symm)).elim
    · obtain ⟨e1, n, c, ks, lf, dx, us, e2, e3, e4, r⟩ := s.slf j d q
      refine ⟨e1, n, c, ks, lf, dx, us, e2, e3, e4, r.weak (fun _ z => z) fun k d' hk => ⟨d', ?_⟩⟩
      rw [List.getElem?_set_ne fun z => ?_]
      · exact hk
      · rw [← z, hi] at hk
        exact nx.2.2 _ (Option.some.inj (Option.some.inj hk))
  · rcases set_at e with ⟨_, q⟩ | ⟨_, q⟩
    · exact (ny.2.2 _ (Option.some.inj q.symm)).elim
    · exact s.gho j d q
def OnlyP (i : Nat) (ρ : DEnv) : Prop := ∀ j x, ρ[j]? = some (some x) → (x = .ptr ∨ ∃ d, x = .pin d) → j = i
/-- a pinned name is hidden -/
theorem SR.hide (hi : ρ[i]? = some (some (.pin d))) (o : OnlyP i ρ) (s : SR Y O ρ σ H) : SR Y O (ρ.set i (some .ptr)) σ H :=
  SR.reslot (Y := Y) (Y' := Y) ⟨rfl, rfl, rfl, rfl⟩ (.inr ⟨d, rfl⟩) hi (.inl rfl) (fun _ z => (by cases z)) (fun s => ⟨fun j e => by
    rcases set_at e with ⟨rfl, _⟩ | ⟨_, q⟩
    · exact (s.choose_spec.ptr.2 j d hi).1
    · exact s.choose_spec.ptr.1 j q, fun j d e => by
    rcases set_at e with ⟨_, q⟩ | ⟨n, q⟩
    · cases q
    · exact (n (o j _ q (.inr ⟨d, rfl⟩))).elim⟩) s
/-- a hidden name is pinned again -/
theorem SR.show (hi : ρ[i]? = some (some .ptr)) (o : OnlyP i ρ) (r : Rep Y.G (Zo Y.Ze O) H d (Y.pt i)) (s : SR Y O ρ σ H) : SR Y O (ρ.set i (some (.pin d))) σ H :=
  SR.reslot (Y := Y) (Y' := Y) ⟨rfl, rfl, rfl, rfl⟩ (.inl rfl) hi (.inr (.inl ⟨d, rfl⟩)) (fun _ z => (by cases z)) (fun s => ⟨fun j e => by
    rcases set_at e with ⟨_, q⟩ | ⟨n, q⟩
    · cases q
    · exact (n (o j _ q (.inl rfl))).elim, fun j d' e => by
    rcases set_at e with ⟨rfl, q⟩ | ⟨n, q⟩
    · cases q
      exact ⟨s.choose_spec.ptr.1 j hi, r⟩
    · exact (n (o j _ q (.inr ⟨_, rfl⟩))).elim⟩) s
/-- a pinned name is a name like others -/
theorem SR.unpin {Y' : Cy} (hY : Y'.G = Y.G ∧ Y'.Ze = Y.Ze ∧ Y'.sa = Y.sa ∧ Y'.n = Y.n) (hi : ρ[i]? = some (some (.pin d))) (o : OnlyP i ρ) (s : SR Y O ρ σ H) : SR Y' O (ρ.set i (some (.val d))) σ H := by
  have hp := s.choose_spec.ptr.2 i d hi
  exact SR.reslot (Y := Y) hY (.inr ⟨d, rfl⟩) hi (.inr (.inr ⟨d, rfl⟩)) (fun d' z => by cases z; exact ⟨_, hp⟩) (fun s => ⟨fun j e => by
    rcases set_at e with ⟨_, q⟩ | ⟨n, q⟩
    · cases q
    · exact (n (o j _ q (.inl rfl))).elim, fun j d' e => by
    rcases set_at e with ⟨rfl, q⟩ | ⟨n, q⟩
    · cases q
    · exact (n (o j _ q (.inr ⟨_, rfl⟩))).elim⟩) s
/-- what all other names are told apart from is out of their reach -/
theorem SR.sepZ {b : Addr} {x : List D} {us : List V} {Z0 : Addr → Prop} (s : SR (Y.tz Ze a) O ρ σ H) (hs : sepS [x] ρ = true) (hb : H b = some (.lst us)) (rb : RepL Y.G Z0 H x us) (nb : ¬ O b) : SR (Y.tz (fun c => Ze c ∨ c = b) a) O ρ σ H := by
  obtain ⟨α, s⟩ := s
  have at' : ∀ {j : Nat} {y : Option Slot}, ρ[j]? = some y → sepSl [x] y = true := fun {j y} e => List.all_eq_true.mp hs _ (List.mem_of_getElem? e)
  have zz : ∀ c, Zo (fun c => Ze c ∨ c = b) O c → Zo Ze O c ∨ ∃ l ∈ [x], ∃ Z0 vs, H c = some (.lst vs) ∧ RepL Y.G Z0 H l vs := fun c z => by
    rcases z with (z | rfl) | z
    · exact .inl (.inl z)
    · exact .inr ⟨x, List.mem_singleton.mpr rfl, Z0, us, hb, rb⟩
    · exact .inl (.inr z)
  refine ⟨α, s.len, fun j d e => ?_, fun j d e => ?_, fun j d e => (by cases at' e), fun j d e => (by cases at' e), s.inj, s.oeq, fun c z => ?_, s.ot, s.ptr.1, fun j d e => (by cases at' e)⟩
  · obtain ⟨v, e1, r⟩ := s.val j d e
    exact ⟨v, e1, Rep.sepN zz (at' e) r⟩
  · obtain ⟨e1, n, r⟩ := s.own j d e
    refine ⟨e1, fun z => ?_, ?_⟩
    · rcases z with z | z
      · exact n z
      · exact nb (by rw [← z]; exact (s.oeq _).mpr ⟨j, ⟨d, .inl e⟩, rfl⟩)
    · have h := at' e
      cases d with
      | lst l =>
        obtain ⟨c, vs, e2, t, r⟩ := r
        exact ⟨c, vs, e2, t, RepL.sepN zz h r⟩
      | _ => cases h
  · rcases z with z | z
    · exact s.zt c z
    · rw [z, hb]; exact fun q => by cases q
theorem SR.weakZ {Z1 Z2 : Addr → Prop} (z : ∀ c, Z2 c → Z1 c) (s : SR (Y.tz Z1 a) O ρ σ H) : SR (Y.tz Z2 a) O ρ σ H := by
  obtain ⟨α, s⟩ := s
  have zz : ∀ c, Zo Z2 O c → Zo Z1 O c := fun c h => h.imp (z c) id
  refine ⟨α, s.len, fun j d e => ?_, fun j d e => ?_, fun j d e => ?_, fun j d e => ?_, s.inj, s.oeq, fun c h => s.zt c (z c h), s.ot, s.ptr.m (fun _ _ r => r.weak zz)⟩
  · obtain ⟨v, e1, r⟩ := s.val j d e
    exact ⟨v, e1, r.weak zz⟩
  · obtain ⟨e1, n, r⟩ := s.own j d e
    exact ⟨e1, fun h => n (z _ h), RepW.weak2 zz r⟩
  · obtain ⟨e1, n, c, ks, lf, dx, us, e2, e3, e4, r⟩ := s.slf j d e
    exact ⟨e1, n, c, ks, lf, dx, us, e2, e3, e4, r.weak zz fun k d' h => ⟨d', h⟩⟩
  · obtain ⟨r, k⟩ := s.gho j d e
    exact ⟨RepW.weak2 zz r, k⟩
end
def TP (Y : Cy) (i : Nat) (m : Msk) (O Ω : Addr → Prop) (ρ : DEnv) (σ : L2.St) (H : Hp) : Prop :=
  ∃ a d, SR (Y.tz Y.Ze a) O ρ σ H ∧ ρ[i]? = some (some (.pin d)) ∧ TR Y.G (Zo (Zo Y.Ze Ω) O) H m d (.ref a) Ω ∧ (∀ x, Ω x → ¬ Y.Ze x ∧ ¬ O x) ∧ OnlyP i ρ
section
variable {Y : Cy} {O Ω O' : Addr → Prop} {ρ ρ' : DEnv} {σ σ' : L2.St} {H H' : Hp} {i : Nat} {m : Msk} {a : Addr} {d : D}
theorem TP.same (t : TP Y i m O Ω ρ σ H) (s : Same H H') : TP Y i m O Ω ρ σ H' := by
  obtain ⟨a, d, sr, hi, tr, ap, po⟩ := t
  exact ⟨a, d, sr.same s, hi, TR.mono (Same.sub s) (fun _ z => .inl z) (fun b _ o q => s _ _ q) tr, ap, po⟩
/-- what a step of the others leaves -/
theorem TP.step (st : Stp O H O' H') (s' : SR (Y.tz Y.Ze a) O' ρ' σ' H') (hi : ρ'[i]? = some (some (.pin d))) (po : OnlyP i ρ') (tr : TR Y.G (Zo (Zo Y.Ze Ω) O) H m d (.ref a) Ω) (ap : ∀ x, Ω x → ¬ Y.Ze x ∧ ¬ O x) :
    Stp (Zo Ω O) H (Zo Ω O') H' ∧ TP Y i m O' Ω ρ' σ' H' := by
  refine ⟨⟨fun c o n e => st.1 c o (fun z => n (.inr z)) e, fun c z => z.elim (fun z => .inl (.inl z)) fun z => (st.2 c z).imp .inr id⟩, a, d, s', hi, ?_, fun x hx => ⟨(ap x hx).1, fun z => ?_⟩, po⟩
  · exact TR.mono (fun c o n e => st.1 c o (fun z => n (.inr z)) e) (fun c z => z.elim (fun z => .inl (.inl z)) fun z => (st.2 c z).imp .inr id) (fun b hb o e => st.1 b o (ap b hb).2 e) tr
  · obtain ⟨us, e⟩ := TR.cells tr x hx
    rcases st.2 x z with z | z
    · exact (ap x hx).2 z
    · rw [e] at z; cases z
/-- given out for good -/
theorem TP.out (t : TP Y i m O Ω ρ σ H) : ∃ d, ρ[i]? = some (some (.pin d)) ∧ SR Y O (ρ.set i (some (.val d))) σ H := by
  obtain ⟨a, d, sr, hi, tr, ap, po⟩ := t
  exact ⟨d, hi, SR.unpin (Y := Y.tz Y.Ze a) ⟨rfl, rfl, rfl, rfl⟩ hi po sr⟩
theorem onlyP_set {y : Slot} (h : OnlyP i ρ) : OnlyP i (ρ.set i (some y)) := fun j x e hx => by
  rcases set_at e with ⟨rfl, _⟩ | ⟨_, q⟩
  · rfl
  · exact h j x q hx
/-- names that are dead are forgotten -/
theorem clr1_pin {k : Nat} (j : Nat) (x : Slot) (hx : x = .ptr ∨ ∃ d, x = .pin d) : (clr1 k ρ)[j]? = some (some x) ↔ ρ[j]? = some (some x) := by
  unfold clr1
  have key : ∀ {y : Slot}, ρ[k]? = some (some y) → (y ≠ x) → ((ρ.set k none)[j]? = some (some x) ↔ ρ[j]? = some (some x)) := fun {y} e n => by
    constructor
    · intro h
      rcases set_at h with ⟨_, q⟩ | ⟨_, q⟩
      · cases q
      · exact q
    · intro h
      rw [List.getElem?_set_ne fun z => n ?_]
      · exact h
      · rw [z, h] at e
        exact (Option.some.inj (Option.some.inj e)).symm
  split
  · rename_i d e
    exact key e fun z => by rcases hx with rfl | ⟨_, rfl⟩ <;> cases z
  · rename_i d e
    exact key e fun z => by rcases hx with rfl | ⟨_, rfl⟩ <;> cases z
  · exact Iff.rfl
theorem clrD_pin : ∀ (cl : List Nat) {ρ : DEnv} (j : Nat) (x : Slot), (x = .ptr ∨ ∃ d, x = .pin d) → ((clrD cl ρ)[j]? = some (some x) ↔ ρ[j]? = some (some x))
  | [], ρ, j, x, _ => Iff.rfl
  | k :: cl, ρ, j, x, hx => by
    show (clrD cl (clr1 k ρ))[j]? = _ ↔ _
    rw [clrD_pin cl j x hx]
    exact clr1_pin j x hx
theorem TP.clr (cl : List Nat) (t : TP Y i m O Ω ρ σ H) : ∃ O', Stp (Zo Ω O) H (Zo Ω O') H ∧ TP Y i m O' Ω (clrD cl ρ) σ H := by
  obtain ⟨a, d, sr, hi, tr, ap, po⟩ := t
  obtain ⟨O', st, s'⟩ := clrD_SR cl sr
  obtain ⟨b1, b2⟩ := TP.step st s' ((clrD_pin cl i _ (.inr ⟨d, rfl⟩)).mpr hi) (fun j x e hx => po j x ((clrD_pin cl j x hx).mp e) hx) tr ap
  exact ⟨O', b1, b2⟩
end
end Tw

set_option maxHeartbeats 2000000
namespace Tw
open PySem PySem.Spec L2
open PyProof.Rows hiding St
def PPost (Y : Cy) (i : Nat) (m : Msk) (B : Addr → Prop) (H : Hp) (N : Ends) : R Out → Prop
  | .ok (.nx ρ) => ∀ O' Ω' σ' H', Stp B H (Zo Ω' O') H' → TP Y i m O' Ω' ρ σ' H' → N.nx σ' H'
  | .ok (.bk ρ) => ∀ O' Ω' σ' H', Stp B H (Zo Ω' O') H' → TP Y i m O' Ω' ρ σ' H' → N.bk σ' H'
  | .ok (.ct ρ) => ∀ O' Ω' σ' H', Stp B H (Zo Ω' O') H' → TP Y i m O' Ω' ρ σ' H' → N.ct σ' H'
  | .ok (.rt d ρ) => ∀ O' Ω' σ' H' v, Stp B H (Zo Ω' O') H' → TP Y i m O' Ω' ρ σ' H' → Rep Y.G (Zo Y.Ze O') H' d v → N.rt v H'
  | _ => False
noncomputable def iteC {α : Type} (p : Prop) (a b : α) : α := @ite α p (Classical.propDecidable p) a b
theorem iteC_pos {α : Type} {p : Prop} {a b : α} (h : p) : iteC p a b = a := @if_pos p (Classical.propDecidable p) h α a b
/-- what a statement that only reads the tree leaves -/
noncomputable def chkP (i : Nat) (ρ : DEnv) : R Out → R Out
  | .ok (.nx ρ') => iteC (ρ'[i]? = ρ[i]? ∧ noPtr (ρ'.set i none) = true) (.ok (.nx ρ')) .no
  | .ok (.bk ρ') => iteC (ρ'[i]? = ρ[i]? ∧ noPtr (ρ'.set i none) = true) (.ok (.bk ρ')) .no
  | .ok (.ct ρ') => iteC (ρ'[i]? = ρ[i]? ∧ noPtr (ρ'.set i none) = true) (.ok (.ct ρ')) .no
  | .ok (.rt d ρ') => iteC (ρ'[i]? = ρ[i]? ∧ noPtr (ρ'.set i none) = true) (.ok (.rt d ρ')) .no
  | _ => .no
noncomputable def liftP (i : Nat) (F : DS) : DS := fun ρ => chkP i ρ (F ρ)
def unp (i : Nat) (ρ : DEnv) : DEnv := match ρ[i]? with
  | some (some (.pin d)) => ρ.set i (some (.val d))
  | _ => ρ
def outP (i : Nat) : R Out → R Out
  | .ok (.nx ρ) => .ok (.nx (unp i ρ))
  | .ok (.rt d ρ) => .ok (.rt d (unp i ρ))
  | _ => .no
/-- x = a call that gives a tree, and the rest of the def -/
def treeP (i : Nat) (call : DE) (F : DS) : DS := fun ρ => match call ρ with
  | .ok d => if empAt i ρ = true ∧ noPtr ρ = true then outP i (F (ρ.set i (some (.pin d)))) else .no
  | _ => .no
section
variable {X : Cx} {Y : Cy} {i : Nat} {m : Msk} {O Ω O' Ω' : Addr → Prop} {ρ ρ' : DEnv} {d : D} {σ σ' : L2.St} {H H' : Hp} {N : Ends}
theorem PPost.fwd {B B1 : Addr → Prop} {H1 : Hp} {r : R Out} (st : Stp B H B1 H1) (h : PPost Y i m B H N r) : PPost Y i m B1 H1 N r := by
  cases r with
  | ok o =>
    cases o with
    | nx ρ => exact fun O' Ω' σ' H' s' q => h O' Ω' σ' H' (st.trans s') q
    | bk ρ => exact fun O' Ω' σ' H' s' q => h O' Ω' σ' H' (st.trans s') q
    | ct ρ => exact fun O' Ω' σ' H' s' q => h O' Ω' σ' H' (st.trans s') q
    | rt d ρ => exact fun O' Ω' σ' H' v s' q => h O' Ω' σ' H' v (st.trans s') q
    | xx e ρ => exact h
  | ex e => exact h
  | no => exact h
end
end Tw

set_option maxHeartbeats 2000000
namespace Tw
open PySem PySem.Spec L2
open PyProof.Rows hiding St
section
variable {Y : Cy} {i : Nat} {m : Msk} {O Ω : Addr → Prop} {ρ : DEnv} {σ : L2.St} {H : Hp} {a : Addr} {d : D}
/-- one leaf is changed -/
theorem TP.put {pa : List Nat} {f : Nat → Msk} {x : List D} {cl : List Nat} (sr : SR (Y.tz Y.Ze a) O ρ σ H) (hi : ρ[i]? = some (some (.pin d))) (tr : TR Y.G (Zo (Zo Y.Ze Ω) O) H m d (.ref a) Ω) (ap : ∀ x, Ω x → ¬ Y.Ze x ∧ ¬ O x) (po : OnlyP i ρ)
    (hg : getP d pa = some (.lst x)) (hm : mskP m pa = .o f) (hs : sepS [x] ((clrD cl ρ).set i (some .ptr)) = true) :
    ∃ b us, pathV H (.ref a) pa (.ref b) ∧ H b = some (.lst us) ∧ us.length = x.length ∧ ∀ k n, k < x.length → f k = .v → ∃ O', Stp (Zo Ω O) H (Zo Ω O') (upd H b (.lst (us.set k (.int n)))) ∧ TP Y i m O' Ω ((clrD cl ρ).set i (some (.pin (setP d pa (.lst (x.set k (.int n))))))) σ (upd H b (.lst (us.set k (.int n)))) := by
  obtain ⟨O', st, s'⟩ := clrD_SR cl sr
  have hi' : (clrD cl ρ)[i]? = some (some (.pin d)) := (clrD_pin cl i _ (.inr ⟨d, rfl⟩)).mpr hi
  have po' : OnlyP i (clrD cl ρ) := fun j x e hx => po j x ((clrD_pin cl j x hx).mp e) hx
  obtain ⟨b1, b2⟩ := TP.step st s' hi' po' tr ap
  have tr' : TR Y.G (Zo (Zo Y.Ze Ω) O') H m d (.ref a) Ω := TR.mono (fun c o n e => e) (fun c z => z.elim (fun z => .inl (.inl z)) fun z => (st.2 c z).imp .inr id) (fun b hb o e => e) tr
  have ap' : ∀ x, Ω x → ¬ Y.Ze x ∧ ¬ O' x := fun c hc => ⟨(ap c hc).1, fun z => (st.2 c z).elim (ap c hc).2 fun z => by
    obtain ⟨us, e⟩ := TR.cells tr c hc
    rw [e] at z; cases z⟩
  obtain ⟨b, Fb, q1, q2, q3, q4⟩ := TR.upp tr' hg hm
  obtain ⟨n1, us, n2, n3⟩ := TR.node q3
  have Ob : Ω b := q2 b n1
  have fin : ∀ (k : Nat) (n : Int), k < x.length → f k = .v → TR Y.G (Zo (Zo Y.Ze Ω) O') (upd H b (.lst (us.set k (.int n)))) m (setP d pa (.lst (x.set k (.int n)))) (.ref a) Ω := fun k n hk hf => by
    have t3 := TR.put q3 (.inl (.inr Ob)) n2 (k := k) (w := .int n) (u := .int n) hk hf rfl
    refine (q4 (Zo (Zo Y.Ze Ω) O') _ _ Fb (fun c o nn e => ?_) (fun c z => .inl z) (fun c hc nf o e => ?_) (fun c hc _ => hc) t3).congr fun c => ⟨fun z => z.elim And.left (q2 c), fun z => by
      by_cases h : Fb c
      · exact .inr h
      · exact .inl ⟨z, h⟩⟩
    · rw [upd_ne fun z => nn (.inl (.inr (by rw [z]; exact Ob)))]
      exact e
    · rw [upd_ne fun z => nf (by rw [z]; exact n1)]
      exact e
  refine ⟨b, us, q1, n2, n3, fun k n hk hf => ⟨O', ?_, a, _, ?_, List.getElem?_set_self (List.getElem?_eq_some_iff.mp hi').1, ?_, ap', onlyP_set po'⟩⟩
  · refine ⟨fun c o nn e => ?_, b1.2⟩
    rw [upd_ne fun z => nn (.inl (by rw [z]; exact Ob))]
    exact e
  · have t2 := fin k n hk hf
    obtain ⟨Z0, rl⟩ : ∃ Z0, RepL Y.G Z0 H x us := by
      obtain ⟨l, a0, vs, C, e1, e2, hvs, _, _, _, _, hit⟩ := q3
      cases e1; cases e2
      rw [n2] at hvs
      cases hvs
      exact ⟨fun _ => False, RepL.of_get n3 fun j dj vj ed ev => TR.rep (Z' := fun _ => False) (fun _ z => z.elim) (fun _ _ z => z.elim) (hit j dj vj ed ev)⟩
    have h1 := SR.hide hi' po' s'
    have h2 := SR.sepZ h1 hs n2 rl (ap' b Ob).2
    have h3 := SR.hid (b := b) (o := .lst (us.set k (.int n))) h2 (.inr rfl) (ap' b Ob).2
    have h4 := SR.weakZ (Z2 := Y.Ze) (fun _ z => .inl z) h3
    have h5 := SR.show (Y := Y.tz Y.Ze a) (i := i) (d := setP d pa (.lst (x.set k (.int n)))) (List.getElem?_set_self (List.getElem?_eq_some_iff.mp hi').1) (onlyP_set po') (TR.rep (fun c z => z.elim (fun z => .inl (.inl z)) .inr) (fun c hc z => z.elim (ap' c hc).1 (ap' c hc).2) t2) h4
    rw [set_set] at h5
    exact h5
  · exact fin k n hk hf
end
end Tw

set_option maxHeartbeats 2000000
namespace Tw
open PySem PySem.Spec L2
open PyProof.Rows hiding St
end Tw

set_option maxHeartbeats 2000000
namespace Tw
open PySem PySem.Spec L2
open PyProof.Rows hiding St
section
variable {Y : Cy} {i : Nat} {m : Msk} {O Ω : Addr → Prop} {ρ : DEnv} {σ : L2.St} {H : Hp} {a : Addr} {d : D}
/-- a whole number is put at the end of a list of the tree -/
theorem TP.app {pa : List Nat} {f : Nat → Msk} {x : List D} (sr : SR (Y.tz Y.Ze a) O ρ σ H) (hi : ρ[i]? = some (some (.pin d))) (tr : TR Y.G (Zo (Zo Y.Ze Ω) O) H m d (.ref a) Ω) (ap : ∀ x, Ω x → ¬ Y.Ze x ∧ ¬ O x) (po : OnlyP i ρ)
    (hg : getP d pa = some (.lst x)) (hm : mskP m pa = .o f) (hf : f x.length = .v) (hs : sepS [x] (ρ.set i (some .ptr)) = true) :
    ∃ b us, pathV H (.ref a) pa (.ref b) ∧ H b = some (.lst us) ∧ us.length = x.length ∧ ∀ n : Int, Stp (Zo Ω O) H (Zo Ω O) (upd H b (.lst (us ++ [.int n]))) ∧ TP Y i m O Ω (ρ.set i (some (.pin (setP d pa (.lst (x ++ [.int n])))))) σ (upd H b (.lst (us ++ [.int n]))) := by
  obtain ⟨b, Fb, q1, q2, q3, q4⟩ := TR.upp tr hg hm
  obtain ⟨n1, us, n2, n3⟩ := TR.node q3
  have Ob : Ω b := q2 b n1
  have lt : i < ρ.length := (List.getElem?_eq_some_iff.mp hi).1
  have fin : ∀ n : Int, TR Y.G (Zo (Zo Y.Ze Ω) O) (upd H b (.lst (us ++ [.int n]))) m (setP d pa (.lst (x ++ [.int n]))) (.ref a) Ω := fun n => by
    have sub : Sub (Zo (Zo Y.Ze Ω) O) H (upd H b (.lst (us ++ [.int n]))) := fun c o nn e => by
      rw [upd_ne fun z => nn (.inl (.inr (by rw [z]; exact Ob)))]
      exact e
    have t3 := TR.snoc (Fw := fun _ => False) (w := .int n) (Z' := Zo (Zo Y.Ze Ω) O) q3 n2 upd_same sub (fun _ z => .inl z) (fun c _ ne o e => by rw [upd_ne ne]; exact e) (fun _ z => z.elim) (by rw [hf]; exact ⟨rfl, fun _ z => z⟩)
    refine (q4 (Zo (Zo Y.Ze Ω) O) _ _ (fun c => Fb c ∨ False) sub (fun c z => .inl z) (fun c hc nf o e => ?_) (fun c hc _ => hc.elim id False.elim) t3).congr fun c => ⟨fun z => z.elim And.left fun z => z.elim (q2 c) False.elim, fun z => by
      by_cases h : Fb c
      · exact .inr (.inl h)
      · exact .inl ⟨z, h⟩⟩
    rw [upd_ne fun z => nf (by rw [z]; exact n1)]
    exact e
  refine ⟨b, us, q1, n2, n3, fun n => ⟨⟨fun c o nn e => ?_, fun c z => .inl z⟩, a, _, ?_, List.getElem?_set_self lt, fin n, ap, onlyP_set po⟩⟩
  · rw [upd_ne fun z => nn (.inl (by rw [z]; exact Ob))]
    exact e
  · obtain ⟨Z0, rl⟩ : ∃ Z0, RepL Y.G Z0 H x us := by
      obtain ⟨l, a0, vs, C, e1, e2, hvs, _, _, _, _, hit⟩ := q3
      cases e1; cases e2
      rw [n2] at hvs
      cases hvs
      exact ⟨fun _ => False, RepL.of_get n3 fun j dj vj ed ev => TR.rep (Z' := fun _ => False) (fun _ z => z.elim) (fun _ _ z => z.elim) (hit j dj vj ed ev)⟩
    have h1 := SR.hide hi po sr
    have h2 := SR.sepZ h1 hs n2 rl (ap b Ob).2
    have h3 := SR.hid (b := b) (o := .lst (us ++ [.int n])) h2 (.inr rfl) (ap b Ob).2
    have h4 := SR.weakZ (Z2 := Y.Ze) (fun _ z => .inl z) h3
    have h5 := SR.show (Y := Y.tz Y.Ze a) (i := i) (d := setP d pa (.lst (x ++ [D.int n]))) (List.getElem?_set_self lt) (onlyP_set po) (TR.rep (fun c z => z.elim (fun z => .inl (.inl z)) .inr) (fun c hc z => z.elim (ap c hc).1 (ap c hc).2) (fin n)) h4
    rw [set_set] at h5
    exact h5
end
end Tw

set_option maxHeartbeats 2000000
namespace Tw
open PySem PySem.Spec L2
open PyProof.Rows hiding St
/-- tt: the tree itself is the answer -/
inductive OutV where
  | nx (ρ : DEnv) (d : D) | rt (x : D) (ρ : DEnv) (d : D) | tt (ρ : DEnv) (d : D) | bk (ρ : DEnv) (d : D) | ct (ρ : DEnv) (d : D) | xx (e : Ex) (ρ : DEnv) (d : D)
abbrev DV := DEnv → D → R OutV
def VPost (Y : Cy) (i : Nat) (m : Msk) (B : Addr → Prop) (H : Hp) (N : Ends) : R OutV → Prop
  | .ok (.nx ρ d) => ∀ O' Ω' σ' H', Stp B H (Zo Ω' O') H' → TH Y i m O' Ω' ρ d σ' H' → N.nx σ' H'
  | .ok (.bk ρ d) => ∀ O' Ω' σ' H', Stp B H (Zo Ω' O') H' → TH Y i m O' Ω' ρ d σ' H' → N.bk σ' H'
  | .ok (.ct ρ d) => ∀ O' Ω' σ' H', Stp B H (Zo Ω' O') H' → TH Y i m O' Ω' ρ d σ' H' → N.ct σ' H'
  | .ok (.rt x ρ d) => ∀ O' Ω' σ' H' v, Stp B H (Zo Ω' O') H' → TH Y i m O' Ω' ρ d σ' H' → Rep Y.G (Zo Y.Ze O') H' x v → N.rt v H'
  | .ok (.tt ρ d) => ∀ O' Ω' H' v, Stp B H (Zo Ω' O') H' → TR Y.G (Zo (Zo Y.Ze Ω') O') H' m d v Ω' → (∀ x, Ω' x → ¬ Y.Ze x ∧ ¬ O' x) → N.rt v H'
  | .ok (.xx e ρ d) => ∀ O' Ω' σ' H' c od, Stp B H (Zo Ω' O') H' → TH Y i m O' Ω' ρ d σ' H' → ExRep Y.G (Zo Y.Ze O') H' e c od → Y.E c od σ' H'
  | _ => False
def tV (Y : Cy) (i : Nat) (m : Msk) (G : DV) : TS := fun N σ H => ∃ O Ω ρ d, TH Y i m O Ω ρ d σ H ∧ VPost Y i m (Zo Ω O) H N (G ρ d)
def PV (X : Cx) (Y : Cy) (i : Nat) (m : Msk) (st : Stmt) (G : DV) : Prop := Lk X Y → PS X st (tV Y i m G)
def PVs (X : Cx) (Y : Cy) (i : Nat) (m : Msk) (sts : List Stmt) (G : DV) : Prop := Lk X Y → PSs X sts (tV Y i m G)
/-- the tree in sight -/
def vw (i : Nat) (ρ : DEnv) (d : D) : DEnv := ρ.set i (some (.pin d))
def liftV (i : Nat) (F : DS) : DV := fun ρ d => match F ρ with
  | .ok (.nx ρ') => if ptrAt i ρ' then .ok (.nx ρ' d) else .no
  | .ok (.rt x ρ') => if ptrAt i ρ' then .ok (.rt x ρ' d) else .no
  | .ok (.bk ρ') => if ptrAt i ρ' then .ok (.bk ρ' d) else .no
  | .ok (.ct ρ') => if ptrAt i ρ' then .ok (.ct ρ' d) else .no
  | .ok (.xx e ρ') => if ptrAt i ρ' then .ok (.xx e ρ' d) else .no
  | _ => .no
def nextV : DV := fun ρ d => .ok (.nx ρ d)
def giveV : DV := fun ρ d => .ok (.tt ρ d)
def seqV (G1 G2 : DV) : DV := fun ρ d => match G1 ρ d with
  | .ok (.nx ρ' d') => G2 ρ' d'
  | r => r
/-- x = e, e reads the tree -/
def setV_ (i j : Nat) (fe : DE) : DV := fun ρ d => match fe (vw i ρ d) with
  | .ok x => if noL x = true then (match setV j x ρ with
    | .ok ρ' => if ptrAt i ρ' then .ok (.nx ρ' d) else .no
    | _ => .no) else .no
  | _ => .no
def ifV (i : Nat) (gc : DT) (G1 G2 : DV) : DV := fun ρ d => match gc (vw i ρ d) with
  | .ok true => G1 ρ d
  | .ok false => G2 ρ d
  | _ => .no
section
variable {X : Cx} {Y : Cy} {i : Nat} {m : Msk} {O Ω O' Ω' : Addr → Prop} {ρ ρ' : DEnv} {d : D} {σ σ' : L2.St} {H H' : Hp} {N : Ends}
theorem VPost.fwd {B B1 : Addr → Prop} {H1 : Hp} {r : R OutV} (st : Stp B H B1 H1) (h : VPost Y i m B H N r) : VPost Y i m B1 H1 N r := by
  cases r with
  | ok o =>
    cases o with
    | nx ρ d => exact fun O' Ω' σ' H' s' q => h O' Ω' σ' H' (st.trans s') q
    | bk ρ d => exact fun O' Ω' σ' H' s' q => h O' Ω' σ' H' (st.trans s') q
    | ct ρ d => exact fun O' Ω' σ' H' s' q => h O' Ω' σ' H' (st.trans s') q
    | rt x ρ d => exact fun O' Ω' σ' H' v s' q => h O' Ω' σ' H' v (st.trans s') q
    | tt ρ d => exact fun O' Ω' H' v s' q => h O' Ω' H' v (st.trans s') q
    | xx e ρ d => exact fun O' Ω' σ' H' c od s' q => h O' Ω' σ' H' c od (st.trans s') q
  | ex e => exact h
  | no => exact h
theorem TH.view {a : Addr} (sr : SR (Y.tz (Zo Y.Ze Ω) a) O ρ σ H) (hi : ρ[i]? = some (some .ptr)) (tr : TR Y.G (Zo (Zo Y.Ze Ω) O) H m d (.ref a) Ω) (ap : ∀ x, Ω x → ¬ Y.Ze x ∧ ¬ O x) (po : OnlyP i ρ) :
    SR (Y.tz Y.Ze a) O (vw i ρ d) σ H := by
  have s2 : SR (Y.tz Y.Ze a) O ρ σ H := sr.weakZ (Y := Y) (fun c z => .inl z)
  exact SR.show hi po (TR.rep (Z' := Zo Y.Ze O) (fun c z => z.elim (fun z => .inl (.inl z)) .inr) (fun b hb z => z.elim (ap b hb).1 (ap b hb).2) tr) s2
/-- what a view's answer leans on -/
theorem TH.ans (tr : TR Y.G (Zo (Zo Y.Ze Ω) O) H m d v0 Ω) {w : D} {v : V} (nl : noL w = true) (rv : Rep Y.G (Zo Y.Ze O) H w v) : Rep Y.G (Zo (Zo Y.Ze Ω) O) H w v := Rep.nolst (fun c z => by
  rcases z with (z | z) | z
  · exact .inl (.inl z)
  · exact .inr (TR.cells tr c z)
  · exact .inl (.inr z)) nl rv
theorem pvs_one {st : Stmt} {G : DV} (h : PV X Y i m st G) : PVs X Y i m [st] G := fun k => pss_one (h k)
theorem pv_if {pos : Pos} {c : Expr} {gc : DT} {A B : List Stmt} {G1 G2 : DV} (hc : ∀ a, PDT X (Y.tz Y.Ze a) c gc) (ha : PVs X Y i m A G1) (hb : PVs X Y i m B G2) : PV X Y i m (.If c A B pos) (ifV i gc G1 G2) := fun k => ⟨fun pins s σ H N I ⟨O, Ω, ρ, d, t, q⟩ => by
  have t0 := t
  obtain ⟨a, sr, hi, tr, ap, po⟩ := t
  refine (ps_if (hc a (k.tz _ a)) (ha k) (hb k)).run pins s σ H N I ⟨O, _, TH.view sr hi tr ap po, ?_⟩
  unfold ifV at q
  cases e : gc (vw i ρ d) with
  | no => rw [e] at q; exact q.elim
  | ex z => rw [e] at q; exact q.elim
  | ok b =>
    rw [e] at q
    intro H1 s1
    cases b with
    | true => exact ⟨O, Ω, ρ, d, t0.same s1, VPost.fwd (Stp.same s1) q⟩
    | false => exact ⟨O, Ω, ρ, d, t0.same s1, VPost.fwd (Stp.same s1) q⟩⟩
end
def forVL (i : Nat) (g : DG) (cl : List Nat) (G : DV) : List D → DV
  | [], ρ, d => .ok (.nx ρ d)
  | x :: xs, ρ, d => match g x ρ with
    | .ok ρ1 => if ptrAt i ρ1 then (match G ρ1 d with
      | .ok (.nx ρ2 d2) => if ptrAt i (clrD cl ρ2) then forVL i g cl G xs (clrD cl ρ2) d2 else .no
      | .ok (.ct ρ2 d2) => if ptrAt i (clrD cl ρ2) then forVL i g cl G xs (clrD cl ρ2) d2 else .no
      | .ok (.bk ρ2 d2) => .ok (.nx ρ2 d2)
      | r => r) else .no
    | _ => .no
def forV (i : Nat) (fi : DI) (g : DG) (cl : List Nat) (G : DV) : DV := fun ρ d => match fi ρ with
  | .ok l => if ptrAt i (clrD cl ρ) then forVL i g cl G l (clrD cl ρ) d else .no
  | _ => .no
section
variable {X : Cx} {Y : Cy} {i : Nat} {m : Msk} {O Ω O' Ω' : Addr → Prop} {ρ ρ' : DEnv} {d : D} {σ σ' : L2.St} {H H' : Hp} {N : Ends}
theorem TH.clr {cl : List Nat} (t : TH Y i m O Ω ρ d σ H) (hp : ptrAt i (clrD cl ρ) = true) : ∃ O0, Stp (Zo Ω O) H (Zo Ω O0) H ∧ TH Y i m O0 Ω (clrD cl ρ) d σ H := by
  obtain ⟨a, sr, hi, tr, ap, po⟩ := t
  obtain ⟨O0, st0, s0⟩ := clrD_SR cl sr
  obtain ⟨b1, b2⟩ := TH.step st0 s0 hp tr ap
  exact ⟨O0, b1, b2⟩
end
end Tw

set_option maxHeartbeats 2000000
namespace Tw
open PySem PySem.Spec L2
open PyProof.Rows hiding St
section
variable {Y : Cy} {i : Nat} {m : Msk} {O Ω : Addr → Prop} {ρ : DEnv} {σ : L2.St} {H : Hp} {a : Addr} {d : D}
/-- a list within the tree is changed in its place -/
theorem TH.node {pa : List Nat} {f : Nat → Msk} {x : List D} (sr : SR (Y.tz (Zo Y.Ze Ω) a) O ρ σ H) (hi : ρ[i]? = some (some .ptr)) (tr : TR Y.G (Zo (Zo Y.Ze Ω) O) H m d (.ref a) Ω) (ap : ∀ x, Ω x → ¬ Y.Ze x ∧ ¬ O x) (po : OnlyP i ρ)
    (hg : getP d pa = some (.lst x)) (hm : mskP m pa = .o f) :
    ∃ b us, pathV H (.ref a) pa (.ref b) ∧ H b = some (.lst us) ∧ us.length = x.length ∧
      (∀ w v, f x.length = .v → Rep Y.G (Zo (Zo Y.Ze Ω) O) H w v → Stp (Zo Ω O) H (Zo Ω O) (upd H b (.lst (us ++ [v]))) ∧ TH Y i m O Ω ρ (setP d pa (.lst (x ++ [w]))) σ (upd H b (.lst (us ++ [v])))) ∧
      ∀ k w v, k < x.length → f k = .v → Rep Y.G (Zo (Zo Y.Ze Ω) O) H w v → Stp (Zo Ω O) H (Zo Ω O) (upd H b (.lst (us.set k v))) ∧ TH Y i m O Ω ρ (setP d pa (.lst (x.set k w))) σ (upd H b (.lst (us.set k v))) := by
  obtain ⟨b, Fb, q1, q2, q3, q4⟩ := TR.upp tr hg hm
  obtain ⟨n1, us, n2, n3⟩ := TR.node q3
  have Ob : Ω b := q2 b n1
  have sub : ∀ us' : List V, Sub (Zo (Zo Y.Ze Ω) O) H (upd H b (.lst us')) := fun us' c o nn e => by
    rw [upd_ne fun z => nn (.inl (.inr (by rw [z]; exact Ob)))]
    exact e
  have fin : ∀ (us' : List V) (x' : List D), TR Y.G (Zo (Zo Y.Ze Ω) O) (upd H b (.lst us')) (.o f) (.lst x') (.ref b) Fb → Stp (Zo Ω O) H (Zo Ω O) (upd H b (.lst us')) ∧ TH Y i m O Ω ρ (setP d pa (.lst x')) σ (upd H b (.lst us')) := fun us' x' t3 => by
    refine ⟨⟨fun c o nn e => ?_, fun c z => .inl z⟩, a, SR.hid (b := b) sr (.inr Ob) (ap b Ob).2, hi, ?_, ap, po⟩
    · rw [upd_ne fun z => nn (.inl (by rw [z]; exact Ob))]
      exact e
    · refine (q4 (Zo (Zo Y.Ze Ω) O) _ _ Fb (sub us') (fun c z => .inl z) (fun c hc nf o e => ?_) (fun c hc _ => hc) t3).congr fun c => ⟨fun z => z.elim And.left (q2 c), fun z => by
        by_cases h : Fb c
        · exact .inr h
        · exact .inl ⟨z, h⟩⟩
      rw [upd_ne fun z => nf (by rw [z]; exact n1)]
      exact e
  refine ⟨b, us, q1, n2, n3, fun w v hf r => fin _ _ ?_, fun k w v hk hf r => fin _ _ (TR.put q3 (.inl (.inr Ob)) n2 hk hf r)⟩
  refine (TR.snoc (Z' := Zo (Zo Y.Ze Ω) O) (Fw := fun _ => False) q3 n2 upd_same (sub _) (fun c z => .inl z) (fun c hc ne o e => ?_) (fun _ z => z.elim) ?_).congr fun c => ⟨fun z => z.elim id False.elim, .inl⟩
  · rw [upd_ne ne]; exact e
  · rw [hf]
    exact ⟨Rep.mono (sub _) (fun _ z => .inl z) r, fun _ z => z⟩
end
def appV (i : Nat) (fe : DE) : DV := fun ρ d => match d with
  | .lst L => if L.length < lineD then (match fe (vw i ρ (.lst L)) with
    | .ok w => if noL w = true then .ok (.nx ρ (.lst (L ++ [w]))) else .no
    | _ => .no) else .no
  | _ => .no
def appLV (fs : DA) : DV := fun ρ d => match d with
  | .lst L => if L.length < lineD then (match fs ρ with
    | .ok xs => if xs.length ≤ lineD then .ok (.nx ρ (.lst (L ++ [.lst xs]))) else .no
    | _ => .no) else .no
  | _ => .no
def appAtV (i : Nat) (f1 fe : DE) : DV := fun ρ d => match f1 (vw i ρ d) with
  | .ok (.int j) => if 0 ≤ j then (match getP d [j.toNat] with
    | some (.lst x) => if x.length < lineD then (match fe (vw i ρ d) with
      | .ok w => if noL w = true then .ok (.nx ρ (setP d [j.toNat] (.lst (x ++ [w])))) else .no
      | _ => .no) else .no
    | _ => .no) else .no
  | _ => .no
section
variable {X : Cx} {Y : Cy} {ea b1 b2 : Expr} {es : List Expr} {fe f1 f2 : DE} {fs : DA} {pos p pos' pos2 apos cpos : Pos} {x : Str} {i : Nat} {f : Nat → Msk} {g : Nat → Nat → Msk}
theorem pv_appAt (hg : ∀ j, f j = .o (g j)) (hfv : ∀ j k, g j k = .v) (hN : X.N[i]? = some x) (h1 : ∀ a, PDw X (Y.tz Y.Ze a) b1 f1) (he : ∀ a, PD X (Y.tz Y.Ze a) ea fe) (hpl : PlainIx b1 := by intro _ _; rfl) (hv : Vis X.env.scope x := by first | exact Or.inl rfl | exact Or.inr (Or.inl rfl) | exact Or.inr (Or.inr rfl)) (hd : (x == ("__debug__" : Str)) = false := by decide) (hcd : (x == ("__classdict__" : Str)) = false := by decide)
    (hbase : attributeBase (.Subscript (.Name x p) b1 pos2) "append" X.env (eval (.Subscript (.Name x p) b1 pos2) X.env) = eval (.Subscript (.Name x p) b1 pos2) X.env := by rfl)
    (hfew : ((backTo cpos (starEach (ea :: []) X.env)).all (fun x => !x.1) && (backToKw cpos (keywordEach [] X.env)).all (fun x => x.1.isSome)
      && decide ((ea :: []).length + ([] : List Keyword).length + (if ([] : List Keyword).isEmpty then 0 else 1) < 30)) = true := by rfl)
    (hline : (apos.endLine == cpos.line) = true := by rfl) (hs : starEach (ea :: []) X.env = (false, eval ea X.env) :: starEach [] X.env := by rfl) (hplain : (backTo cpos (starEach [] X.env)).any (·.1) = false := by rfl)
    (hsw : swapsWith (.Call (.Attribute (.Subscript (.Name x p) b1 pos2) "append" apos) [ea] [] cpos) none pos.line X.env = pure false := by rfl) :
    PV X Y i (.o f) (.Expr (.Call (.Attribute (.Subscript (.Name x p) b1 pos2) "append" apos) [ea] [] cpos) pos) (appAtV i f1 fe) := fun k => ⟨fun pins s σ H N I ⟨O, Ω, ρ, d, ⟨a, sr, hi, tr, ap, po⟩, q⟩ => by
  have kz := k.tz Y.Ze a
  refine (ps_expr (pe_bm PySem.F.plainAttrs_list PySem.F.slot_list_append PySem.F.type_list_append mt_append (pe_ix ix_list (pe_var hN hv hd hcd) (h1 a kz) hpl) (pa_cons (he a kz) pa_nil hs) hbase hfew hline hs hplain) hsw).run pins s σ H N I ?_
  have sg : σ[i]? = some (some (.ref a)) := sr.choose_spec.ptr.1 i hi
  unfold appAtV at q
  refine ⟨.ref a, sg, O, _, TH.view sr hi tr ap po, ?_⟩
  cases e1 : f1 (vw i ρ d) with
  | no => rw [e1] at q; exact q.elim
  | ex z => rw [e1] at q; exact q.elim
  | ok dj =>
    rw [e1] at q
    cases dj with
    | int j =>
      dsimp only at q
      split at q
      rotate_left
      · exact q.elim
      rename_i hj
      split at q
      rotate_left
      · exact q.elim
      rename_i y hy
      split at q
      rotate_left
      · exact q.elim
      rename_i hyl
      cases ee : fe (vw i ρ d) with
      | no => rw [ee] at q; exact q.elim
      | ex z => rw [ee] at q; exact q.elim
      | ok w =>
        rw [ee] at q
        dsimp only at q
        split at q
        rotate_left
        · exact q.elim
        rename_i nl
        intro u1 H1 s1 r1
        have r1 : u1 = .int j := r1
        subst r1
        have at3 := fun {H3 : Hp} (s3 : Same H H3) => TH.node (pa := [j.toNat]) (f := g j.toNat) (sr.same s3) hi (TR.mono (Same.sub (Z := Zo (Zo Y.Ze Ω) O) s3) (fun _ z => .inl z) (fun b _ o q => s3 _ _ q) tr) ap po hy (hg _)
        obtain ⟨b, us, ⟨a0, vs, u, ea0, ha, hu, eb⟩, hb, hbl, _⟩ := at3 s1
        cases ea0
        have eb : u = .ref b := eb
        subst eb
        refine ⟨a, vs, j, .ref b, rfl, rfl, SqL.of ha, ?_, .inl ⟨rfl, us, SqL.of hb⟩, O, _, (TH.view sr hi tr ap po).same s1, ?_⟩
        · rw [atI_eq]; unfold atD; rw [if_pos hj]; exact hu
        rw [ee]
        intro v H2 s2 rv
        have s12 := s1.trans s2
        obtain ⟨b', us', ⟨a0, vs', u', ea0, ha', hu', eb'⟩, hb', hbl', fa, _⟩ := at3 s12
        cases ea0
        rw [s2 _ _ ha] at ha'
        cases ha'
        rw [hu] at hu'
        cases hu'
        have eb' : V.ref b = .ref b' := eb'
        cases eb'
        rw [s2 _ _ hb] at hb'
        cases hb'
        have tr2 := TR.mono (Same.sub (Z := Zo (Zo Y.Ze Ω) O) s12) (fun _ z => .inl z) (fun b _ o q => s12 _ _ q) tr
        obtain ⟨g1, g2⟩ := fa w v (hfv _ _) (TH.ans tr2 nl rv)
        exact ⟨b, us, v, rfl, rfl, s2 _ _ hb, by rw [lineD_eq, hbl]; exact hyl, q O Ω σ _ ((Stp.same s12).trans g1) g2⟩
    | _ => exact q.elim⟩
end
end Tw

set_option maxHeartbeats 2000000
namespace Tw
open PySem PySem.Spec L2
open PyProof.Rows hiding St
def callV (fs : DA) (den : List D → D → R D) : DV := fun ρ d => match fs ρ with
  | .ok ds => (match den ds d with
    | .ok d' => .ok (.nx ρ d')
    | _ => .no)
  | _ => .no
def eCallW (fs : DA) (den : List D → D → R D) : DE := fun ρ => match fs ρ with
  | .ok ds => (match den ds (.lst []) with
    | .ok d' => .ok d'
    | _ => .no)
  | _ => .no
end Tw

set_option maxHeartbeats 2000000
namespace Tw
open PySem PySem.Spec L2
open PyProof.Rows hiding St
end Tw

set_option maxHeartbeats 2000000
namespace Tw
open PySem PySem.Spec L2
open PyProof.Rows hiding St
abbrev DVD := DEnv → D → R Out
def tVD (Y : Cy) (i : Nat) (m : Msk) (F : DVD) : TS := fun N σ H => ∃ O Ω ρ d, TH Y i m O Ω ρ d σ H ∧ SPost Y (Zo Ω O) H N (F ρ d)
def PVD (X : Cx) (Y : Cy) (i : Nat) (m : Msk) (sts : List Stmt) (F : DVD) : Prop := Lk X Y → PSs X sts (tVD Y i m F)
def consV (i : Nat) (G : DV) (F : DVD) : DVD := fun ρ d => match G ρ d with
  | .ok (.nx ρ' d') => F ρ' d'
  | .ok (.rt x ρ' d') => .ok (.rt x (ρ'.set i (some (.val d'))))
  | .ok (.bk ρ' d') => .ok (.bk (ρ'.set i (some (.val d'))))
  | .ok (.ct ρ' d') => .ok (.ct (ρ'.set i (some (.val d'))))
  | .ok (.xx e ρ' d') => .ok (.xx e (ρ'.set i (some (.val d'))))
  | _ => .no
def outV (i : Nat) (F : DS) : DVD := fun ρ d => F (ρ.set i (some (.val d)))
def treeV (i : Nat) (F : DVD) : DS := fun ρ => if empAt i ρ = true ∧ noPtr ρ = true then F (ρ.set i (some .ptr)) (.lst []) else .no
section
variable {X : Cx} {Y : Cy} {i : Nat} {m : Msk} {O Ω : Addr → Prop} {ρ : DEnv} {d : D} {σ : L2.St} {H : Hp} {N : Ends}
theorem TH.out (t : TH Y i m O Ω ρ d σ H) : SR Y O (ρ.set i (some (.val d))) σ H := by
  obtain ⟨a, sr, hi, tr, ap, po⟩ := t
  have v := TH.view sr hi tr ap po
  have hl : i < ρ.length := (List.getElem?_eq_some_iff.mp hi).1
  have := SR.unpin (Y := Y.tz Y.Ze a) (Y' := Y) ⟨rfl, rfl, rfl, rfl⟩ (List.getElem?_set_self hl) (onlyP_set (y := .pin d) po) v
  rwa [set_set] at this
theorem Stp.less {O1 : Addr → Prop} {H' : Hp} {O' Ω' : Addr → Prop} (st : Stp O1 H (Zo Ω' O') H') : Stp O1 H O' H' := ⟨st.1, fun c z => st.2 c (.inr z)⟩
theorem pvd_cons {st : Stmt} {sts : List Stmt} {G : DV} {F : DVD} (h1 : PV X Y i m st G) (h2 : PVD X Y i m sts F) : PVD X Y i m (st :: sts) (consV i G F) := fun k => impPSs (pss_cons (h1 k) (h2 k)) fun N σ H ⟨O, Ω, ρ, d, t, q⟩ => by
  refine ⟨O, Ω, ρ, d, t, ?_⟩
  unfold consV at q
  cases e : G ρ d with
  | no => rw [e] at q; exact q.elim
  | ex z => rw [e] at q; exact q.elim
  | ok o =>
    rw [e] at q
    cases o with
    | nx ρ1 d1 => exact fun O' Ω' σ' H' st t' => ⟨O', Ω', ρ1, d1, t', SPost.fwd st q⟩
    | rt x ρ1 d1 => exact fun O' Ω' σ' H' v st t' rv => q O' σ' H' v st.less t'.out rv
    | tt ρ1 d1 => exact q.elim
    | bk ρ1 d1 => exact fun O' Ω' σ' H' st t' => q O' σ' H' st.less t'.out
    | ct ρ1 d1 => exact fun O' Ω' σ' H' st t' => q O' σ' H' st.less t'.out
    | xx e ρ1 d1 => exact fun O' Ω' σ' H' c od st t' xr => q O' σ' H' c od st.less t'.out xr
theorem pvd_out {sts : List Stmt} {F : DS} (h : PDSs X Y sts F) : PVD X Y i m sts (outV i F) := fun k => impPSs (h k) fun N σ H ⟨O, Ω, ρ, d, t, q⟩ =>
  ⟨O, _, t.out, SPost.fwd ⟨fun _ _ _ e => e, fun _ z => .inl (.inr z)⟩ q⟩
theorem TR.nil {G : Gc} {Z : Addr → Prop} {f : Nat → Msk} {n : Addr} (h : H n = some (.lst [])) : TR G Z H (.o f) (.lst []) (.ref n) (fun a => a = n) :=
  ⟨[], n, [], fun _ _ => False, rfl, rfl, h, rfl, fun y => ⟨fun z => .inl z, fun z => z.elim id fun ⟨_, _, z⟩ => z.elim⟩, fun _ _ z => z, fun _ _ _ _ _ z => z.elim, fun _ _ _ ed _ => by cases ed⟩
end
section
variable {i : Nat} {ρ ρ' : DEnv} {d v : D} {G : DV} {F : DVD} {Fs : DS} {e : Ex} {α : Type}
def R.cnV (r : R OutV) (i : Nat) (F : DVD) : R Out := match r with
  | .ok (.nx ρ' d') => F ρ' d'
  | .ok (.rt x ρ' d') => .ok (.rt x (ρ'.set i (some (.val d'))))
  | .ok (.bk ρ' d') => .ok (.bk (ρ'.set i (some (.val d'))))
  | .ok (.ct ρ' d') => .ok (.ct (ρ'.set i (some (.val d'))))
  | .ok (.xx e ρ' d') => .ok (.xx e (ρ'.set i (some (.val d'))))
  | _ => .no
theorem q_coV : consV i G F ρ d = (G ρ d).cnV i F := rfl
theorem cn_nx : (R.ok (OutV.nx ρ d)).cnV i F = F ρ d := rfl
theorem cn_rt : (R.ok (OutV.rt v ρ d)).cnV i F = .ok (.rt v (ρ.set i (some (.val d)))) := rfl
theorem cn_bk : (R.ok (OutV.bk ρ d)).cnV i F = .ok (.bk (ρ.set i (some (.val d)))) := rfl
theorem cn_ct : (R.ok (OutV.ct ρ d)).cnV i F = .ok (.ct (ρ.set i (some (.val d)))) := rfl
theorem cn_xx : (R.ok (OutV.xx e ρ d)).cnV i F = .ok (.xx e (ρ.set i (some (.val d)))) := rfl
theorem q_ouV : outV i Fs ρ d = Fs (ρ.set i (some (.val d))) := rfl
theorem q_trV : treeV i F ρ = if empAt i ρ = true ∧ noPtr ρ = true then F (ρ.set i (some .ptr)) (.lst []) else .no := rfl
end
def ev9 := And.intro @q_coV <| And.intro @cn_nx <| And.intro @cn_rt <| And.intro @cn_bk <| And.intro @cn_ct <| And.intro @cn_xx <| And.intro @q_ouV @q_trV
end Tw

set_option maxHeartbeats 2000000
namespace Tw
open PySem PySem.Spec L2
open PyProof.Rows hiding St
def FrL (G : Gc) (Z : Addr → Prop) (H H' : Hp) : List D → List Addr → Prop
  | [], [] => True
  | d :: ds, p :: ps => H p = none ∧ p ∉ ps ∧ (∃ x us, d = .lst x ∧ H' p = some (.lst us) ∧ RepL G (fun c => Z c ∨ (c = p ∨ c ∈ ps)) H' x us) ∧ FrL G (fun c => Z c ∨ c = p) H H' ds ps
  | _, _ => False
def aConsF (f : DE) (r : DA) : DA := fun ρ => (f ρ).bind fun d => match d with
  | .lst x => (r ρ).bind fun ds => .ok (.lst x :: ds)
  | _ => .no
def tFA (Y : Cy) (f : DA) : TA := fun σ H Q => ∃ a E O ρ, SR (Y.tz (Zo Y.Ze E) a) O ρ σ H ∧ ∃ ds, f ρ = .ok ds ∧ ∀ ps H', Same H H' → FrL Y.G (Zo (Zo Y.Ze E) O) H H' ds ps → Q (ps.map V.ref) H'
def PFA (X : Cx) (Y : Cy) (es : List Expr) (f : DA) : Prop := Lk X Y → PA X es (tFA Y f)
def tFz (Y : Cy) (f : DE) : TE := fun σ H Q => ∃ Ze a, tDF (Y.tz Ze a) f σ H Q
section
variable {X : Cx} {Y : Cy} {i : Nat} {m : Msk} {O Ω O' Ω' : Addr → Prop} {ρ ρ' : DEnv} {d : D} {σ σ' : L2.St} {H H' H1 H2 : Hp} {N : Ends} {G : Gc} {Z Z' : Addr → Prop}
theorem FrL.new : ∀ {ds : List D} {ps : List Addr} {Z : Addr → Prop}, FrL G Z H H' ds ps → ∀ p ∈ ps, H p = none
  | [], [], _, _, p, hp => by cases hp
  | d :: ds, q :: ps, _, h, p, hp => by
    rcases List.mem_cons.mp hp with rfl | hp
    · exact h.1
    · exact FrL.new h.2.2.2 p hp
  | [], _ :: _, _, h, _, _ => h.elim
  | _ :: _, [], _, h, _, _ => h.elim
theorem FrL.nd : ∀ {ds : List D} {ps : List Addr} {Z : Addr → Prop}, FrL G Z H H' ds ps → ps.Nodup
  | [], [], _, _ => List.nodup_nil
  | d :: ds, q :: ps, _, h => List.nodup_cons.mpr ⟨h.2.1, FrL.nd h.2.2.2⟩
  | [], _ :: _, _, h => h.elim
  | _ :: _, [], _, h => h.elim
theorem FrL.len : ∀ {ds : List D} {ps : List Addr} {Z : Addr → Prop}, FrL G Z H H' ds ps → ps.length = ds.length
  | [], [], _, _ => rfl
  | d :: ds, q :: ps, _, h => congrArg (· + 1) (FrL.len h.2.2.2)
  | [], _ :: _, _, h => h.elim
  | _ :: _, [], _, h => h.elim
theorem FrL.back (s : Same H H1) : ∀ {ds : List D} {ps : List Addr} {Z Z' : Addr → Prop}, (∀ c, Z' c → Z c) → FrL G Z H1 H' ds ps → FrL G Z' H H' ds ps
  | [], [], _, _, _, _ => trivial
  | d :: ds, q :: ps, Z, Z', hz, h => by
    obtain ⟨h1, h2, ⟨x, us, e1, e2, r⟩, h3⟩ := h
    exact ⟨s.free h1, h2, ⟨x, us, e1, e2, r.weak fun c z => z.imp (hz c) id⟩, FrL.back s (fun c z => z.imp (hz c) id) h3⟩
  | [], _ :: _, _, _, _, h => h.elim
  | _ :: _, [], _, _, _, h => h.elim
theorem FrL.get : ∀ {ds : List D} {ps : List Addr} {Z : Addr → Prop} {j : Nat} {d : D} {p : Addr}, FrL G Z H H' ds ps → ds[j]? = some d → ps[j]? = some p → ∃ x us, d = .lst x ∧ H' p = some (.lst us) ∧ RepL G (fun c => Z c ∨ c ∈ ps) H' x us
  | [], [], _, _, _, _, _, e, _ => by cases e
  | d :: ds, q :: ps, Z, 0, _, _, h, e1, e2 => by
    cases e1; cases e2
    obtain ⟨_, _, ⟨x, us, e1, e2, r⟩, _⟩ := h
    exact ⟨x, us, e1, e2, r.weak fun c z => z.imp id fun z => List.mem_cons.mp z⟩
  | d :: ds, q :: ps, Z, j + 1, _, _, h, e1, e2 => by
    obtain ⟨x, us, g1, g2, r⟩ := FrL.get (j := j) h.2.2.2 e1 e2
    exact ⟨x, us, g1, g2, r.weak fun c z => z.elim (fun z => .inl (.inl z)) fun z => (List.mem_cons.mp z).elim (fun z => .inl (.inr z)) .inr⟩
  | [], _ :: _, _, _, _, _, h, _, _ => h.elim
  | _ :: _, [], _, _, _, _, h, _, _ => h.elim
theorem SR.tzN {Ze : Addr → Prop} {a : Addr} (s : SR (Y.blk Ze) O ρ σ H) (hp : noPtr ρ = true) : SR (Y.tz Ze a) O ρ σ H := by
  obtain ⟨α, s⟩ := s
  exact ⟨α, s.len, s.val, s.own, s.slf, s.gho, s.inj, s.oeq, s.zt, s.ot, ⟨fun j e => (noPtr_ok hp j _ e (.inl rfl)).elim, fun j d e => (noPtr_ok hp j _ e (.inr ⟨_, rfl⟩)).elim⟩⟩
theorem pe_allzF {e : Expr} {f : DE} (h : ∀ Ze a, PDF X (Y.tz Ze a) e f) : Lk X Y → PE X e (tFz Y f) := fun k => ⟨fun pins s σ H Q I ⟨Ze, a, q⟩ => (h Ze a (k.tz Ze a)).run pins s σ H Q I q⟩
theorem pfa_nil : PFA X Y [] aNil := fun k => impPA pa_nil fun σ H Q ⟨a, E, O, ρ, s, ds, e, q⟩ => by
  cases e
  exact q [] H (Same.refl H) trivial
theorem pfa_cons {e : Expr} {es : List Expr} {f : DE} {fs : DA} (h1 : ∀ Ze a, PDF X (Y.tz Ze a) e f) (h2 : PFA X Y es fs) (hs : starEach (e :: es) X.env = (false, eval e X.env) :: starEach es X.env := by rfl) : PFA X Y (e :: es) (aConsF f fs) := fun k =>
  impPA (pa_cons (pe_allzF h1 k) (h2 k) hs) fun σ H Q ⟨a, E, O, ρ, s, ds, eq, q⟩ => by
    refine ⟨Zo Y.Ze E, a, O, ρ, s, ?_⟩
    unfold aConsF at eq
    cases ea : f ρ with
    | no => rw [ea] at eq; cases eq
    | ex z => rw [ea] at eq; cases eq
    | ok d =>
      rw [ea] at eq
      cases d with
      | lst x =>
        cases eb : fs ρ with
        | no => rw [eb] at eq; cases eq
        | ex z => rw [eb] at eq; cases eq
        | ok ds' =>
          rw [eb] at eq
          cases eq
          intro p H1 s1 h0 h1 rw1
          obtain ⟨p', us, ep, hp, ry⟩ := rw1
          cases ep
          have s2 := SR.blkS (Y := Y.tz (Zo Y.Ze E) a) (E := fun c => c = p) s s1 (fun c z => by rw [z]; exact h0) (fun c z => by rw [z]; exact h1)
          rw [show (Y.tz (Zo Y.Ze E) a).Ze = Zo Y.Ze E from rfl, zo_assoc] at s2
          refine ⟨a, fun c => E c ∨ c = p, O, ρ, s2.ofBlk, ds', eb, fun ps H2 s3 fr => q (p :: ps) H2 (s1.trans s3) ?_⟩
          have nw := fr.new
          refine ⟨h0, fun z => h1 (nw p z), ⟨x, us, rfl, s3 _ _ hp, RepL.mono (Same.sub s3) (fun c z => ?_) ry⟩, fr.back s1 fun c z => ?_⟩
          · rcases z with z | z | z
            · exact .inl (.inl z)
            · exact .inl (.inr z)
            · exact .inr (nw c z)
          · rcases z with ((z | z) | z) | z
            · exact .inl (.inl z)
            · exact .inl (.inr (.inl z))
            · exact .inr z
            · exact .inl (.inr (.inr z))
      | _ => cases eq
def treeL (i : Nat) (f : DA) (F : DVD) : DS := fun ρ => if empAt i ρ = true ∧ noPtr ρ = true then (match f ρ with
  | .ok ds => if ds.length ≤ lineD then F (ρ.set i (some .ptr)) (.lst ds) else .no
  | _ => .no) else .no
theorem dss_treeL {x : Str} {p pos sp : Pos} {es : List Expr} {fs : DA} {rest : List Stmt} {F : DVD} (he : PFA X Y es fs) (hN : X.N[i]? = some x) (hn : i < Y.n) (hx : Loc X.env.scope x) (h : PVD X Y i (.o fun _ => .o fun _ => .v) rest F) (hs : swapsWith (.List es p) (some (.Name x sp)) pos.line X.env = pure false := by rfl) (hf : X.fn x = true ∨ X.env.scope.names.lookup x = some .local := by first | exact .inl rfl | exact .inr rfl | assumption) :
    PDSs X Y (.Assign [.Name x sp] (.List es p) pos :: rest) (treeL i fs F) := fun k => impPSs (pss_cons (ps_set k.nd hN hx (pe_lst (he k)) hs hf) (h k)) fun N σ H ⟨O, ρ, s, q⟩ => by
  unfold treeL at q
  split at q
  rotate_left
  · exact q.elim
  rename_i hh
  cases ef : fs ρ with
  | no => rw [ef] at q; exact q.elim
  | ex z => rw [ef] at q; exact q.elim
  | ok ds =>
    rw [ef] at q
    dsimp only at q
    split at q
    rotate_left
    · exact q.elim
    rename_i hl
    have hi := empAt_ok hh.1
    have hlt : i < ρ.length := (List.getElem?_eq_some_iff.mp hi).1
    have s0 := SR.blkS (E := fun _ => False) s (Same.refl H) (fun _ z => z.elim) (fun _ z => z.elim)
    refine ⟨0, fun _ => False, O, ρ, s0.tzN hh.2, ds, ef, fun ps H1 s1 fr => ?_⟩
    have nw := fr.new
    refine ⟨by rw [lineD_eq, List.length_map, fr.len]; exact hl, fun n hn0 => ?_⟩
    have sm : Same H (upd H1 n (.lst (ps.map V.ref))) := s1.trans (same_new hn0)
    have hold : ∀ p ∈ ps, H1 p ≠ none := fun p hp => by
      obtain ⟨j, hj⟩ := List.mem_iff_getElem?.mp hp
      have hj2 : j < ds.length := by rw [← fr.len]; exact (List.getElem?_eq_some_iff.mp hj).1
      obtain ⟨_, us, _, e, _⟩ := fr.get (List.getElem?_eq_getElem hj2) hj
      rw [e]; exact fun z => by cases z
    have nps : n ∉ ps := fun z => hold n z hn0
    have nH : H n = none := s1.free hn0
    have c0 : ∀ c, (c = n ∨ c ∈ ps) → H c = none := fun c z => z.elim (fun z => by rw [z]; exact nH) (nw c)
    have c1 : ∀ c, (c = n ∨ c ∈ ps) → upd H1 n (.lst (ps.map V.ref)) c ≠ none := fun c z => by
      rcases z with rfl | z
      · rw [upd_same]; exact fun z => by cases z
      · rw [upd_ne fun e : c = n => nps (by rw [← e]; exact z)]; exact hold c z
    have s2 : SR (Y.tz (Zo Y.Ze fun c => c = n ∨ c ∈ ps) n) O (ρ.set i (some .ptr)) (σ.set i (some (.ref n))) (upd H1 n (.lst (ps.map V.ref))) := (s.blkS (E := fun c => c = n ∨ c ∈ ps) sm c0 c1).putp hi hn hh.2
    refine ⟨O, fun c => c = n ∨ c ∈ ps, ρ.set i (some .ptr), .lst ds, ⟨n, s2, List.getElem?_set_self hlt, ?_, fun y z => ⟨fun w => s.zt y (.inl w) (c0 y z), fun w => s.zt y (.inr w) (c0 y z)⟩, fun j y ej hy => ?_⟩, SPost.fwd ⟨fun c o _ e => sm _ _ e, fun c z => z.elim (fun z => .inr (c0 c z)) .inl⟩ q⟩
    · refine ⟨ds, n, ps.map V.ref, fun j c => ps[j]? = some c, rfl, rfl, upd_same, by rw [List.length_map, fr.len], fun c => ⟨fun z => z.imp id fun z => ?_, fun z => z.imp id fun ⟨j, _, e⟩ => List.mem_of_getElem? e⟩, fun j _ e => nps (List.mem_of_getElem? e), fun j k c hj hk e1 e2 => ?_, fun j dj vj ed ev => ?_⟩
      · obtain ⟨j, e⟩ := List.mem_iff_getElem?.mp z
        exact ⟨j, by rw [← fr.len]; exact (List.getElem?_eq_some_iff.mp e).1, e⟩
      · exact (List.getElem?_inj (by rw [fr.len]; exact hj) fr.nd).mp (e1.trans e2.symm)
      · rw [List.getElem?_map] at ev
        obtain ⟨p, ep, rfl⟩ := Option.map_eq_some_iff.mp ev
        obtain ⟨x, us, rfl, hp, r⟩ := fr.get ed ep
        have r2 : RepL Y.G (Zo (Zo Y.Ze fun c => c = n ∨ c ∈ ps) O) (upd H1 n (.lst (ps.map V.ref))) x us := r.mono (Same.sub (same_new hn0)) fun c z => by
          rcases z with (z | z | z) | z
          · exact .inl (.inl (.inl (.inl z)))
          · exact .inr (by rw [z]; exact hn0)
          · exact .inl (.inr z)
          · exact .inl (.inl (.inr z))
        refine ⟨x, p, us, fun _ _ => False, rfl, rfl, by rw [upd_ne fun e : p = n => nps (by rw [← e]; exact List.mem_of_getElem? ep)]; exact hp, r2.length.symm, fun c => ⟨fun z => .inl ?_, fun z => z.elim (fun z => by rw [z]; exact ep) fun ⟨_, _, z⟩ => z.elim⟩, fun _ _ z => z, fun _ _ _ _ _ z => z.elim, fun j2 d2 v2 ed2 ev2 => ⟨?_, fun _ z => z⟩⟩
        · have z : ps[j]? = some c := z
          rw [ep] at z
          exact (Option.some.inj z).symm
        · obtain ⟨w, e, qq⟩ := r2.get ed2
          rw [ev2] at e
          cases e
          exact qq
    · rcases set_at ej with ⟨rfl, _⟩ | ⟨_, ej⟩
      · rfl
      · exact (noPtr_ok hh.2 j _ ej hy).elim
def setX_ (i j : Nat) (fe : DE) : DV := fun ρ d => match fe (vw i ρ d) with
  | .ok x => if noL x = true then (match setV j x ρ with
    | .ok ρ' => if ptrAt i ρ' then .ok (.nx ρ' d) else .no
    | _ => .no) else .no
  | .ex e => .ok (.xx e ρ d)
  | .no => .no
theorem pv_setX {j : Nat} {x : Str} {a : Expr} {fe : DE} {pos pos' : Pos} (hj : X.N[j]? = some x) (hn : j < Y.n) (hx : Loc X.env.scope x) (ha : ∀ c, PD X (Y.tz Y.Ze c) a fe) (hs : swapsWith a (some (.Name x pos')) pos.line X.env = pure false := by rfl) (hf : X.fn x = true ∨ X.env.scope.names.lookup x = some .local := by first | exact .inl rfl | exact .inr rfl | assumption) :
    PV X Y i m (.Assign [.Name x pos'] a pos) (setX_ i j fe) := fun k => ⟨fun pins s σ H N I ⟨O, Ω, ρ, d, t, q⟩ => by
  have t0 := t
  obtain ⟨b, sr, hi, tr, ap, po⟩ := t
  refine (ps_set k.nd hj hx (ha b (k.tz _ b)) hs hf).run pins s σ H N I ?_
  refine ⟨O, _, TH.view sr hi tr ap po, ?_⟩
  unfold setX_ at q
  cases e : fe (vw i ρ d) with
  | no => rw [e] at q; exact q.elim
  | ex z =>
    rw [e] at q
    exact fun c od H1 s1 xr => q O Ω σ H1 c od (Stp.same s1) (t0.same s1) xr
  | ok w =>
    rw [e] at q
    dsimp only at q
    by_cases nl : noL w = true
    · rw [if_pos nl] at q
      cases es : setV j w ρ with
      | no => rw [es] at q; exact q.elim
      | ex e => rw [es] at q; exact q.elim
      | ok ρ' =>
        rw [es] at q
        dsimp only at q
        by_cases hp : ptrAt i ρ' = true
        · rw [if_pos hp] at q
          intro v H1 s1 rv
          have tr1 := TR.mono (Same.sub (Z := Zo (Zo Y.Ze Ω) O) s1) (fun _ z => .inl z) (fun b _ o q => s1 _ _ q) tr
          obtain ⟨O', st, s', _⟩ := (sr.same s1).setv es hn (TH.ans tr1 nl rv)
          obtain ⟨b1, b2⟩ := TH.step ((Stp.same s1).trans st) s' hp tr ap
          exact q O' Ω _ H1 b1 b2
        · rw [if_neg hp] at q; exact q.elim
    · rw [if_neg nl] at q; exact q.elim⟩
def outO (i : Nat) (r : R Out) (d : D) : R OutV := match r with
  | .ok (.nx ρ') => if ptrAt i ρ' then .ok (.nx ρ' d) else .no
  | .ok (.rt x ρ') => if ptrAt i ρ' then .ok (.rt x ρ' d) else .no
  | .ok (.bk ρ') => if ptrAt i ρ' then .ok (.bk ρ' d) else .no
  | .ok (.ct ρ') => if ptrAt i ρ' then .ok (.ct ρ' d) else .no
  | .ok (.xx e ρ') => if ptrAt i ρ' then .ok (.xx e ρ' d) else .no
  | _ => .no
def tryV (i : Nat) (es : List String) (G : DV) (hs : List Hd) : DV := fun ρ d => match G ρ d with
  | .ok (.xx e ρ' d') => if e.cls ∈ es ∧ noLs e.vs = true then outO i (tryH hs e ρ') d' else .no
  | r => r
theorem spost_out {a : Addr} {r : R Out} (tr : TR Y.G (Zo (Zo Y.Ze Ω) O) H m d (.ref a) Ω) (ap : ∀ x, Ω x → ¬ Y.Ze x ∧ ¬ O x) (q : VPost Y i m (Zo Ω O) H N (outO i r d)) : SPost (Y.tz (Zo Y.Ze Ω) a) O H N r := by
  cases r with
  | no => exact q.elim
  | ex z => exact q.elim
  | ok o =>
    cases o with
    | nx ρ2 =>
      have q : VPost Y i m (Zo Ω O) H N (if ptrAt i ρ2 then .ok (.nx ρ2 d) else .no) := q
      by_cases hp : ptrAt i ρ2 = true
      · rw [if_pos hp] at q
        intro O' σ' H' st s'
        obtain ⟨b1, b2⟩ := TH.step st s' hp tr ap
        exact q O' Ω σ' H' b1 b2
      · rw [if_neg hp] at q; exact q.elim
    | bk ρ2 =>
      have q : VPost Y i m (Zo Ω O) H N (if ptrAt i ρ2 then .ok (.bk ρ2 d) else .no) := q
      by_cases hp : ptrAt i ρ2 = true
      · rw [if_pos hp] at q
        intro O' σ' H' st s'
        obtain ⟨b1, b2⟩ := TH.step st s' hp tr ap
        exact q O' Ω σ' H' b1 b2
      · rw [if_neg hp] at q; exact q.elim
    | ct ρ2 =>
      have q : VPost Y i m (Zo Ω O) H N (if ptrAt i ρ2 then .ok (.ct ρ2 d) else .no) := q
      by_cases hp : ptrAt i ρ2 = true
      · rw [if_pos hp] at q
        intro O' σ' H' st s'
        obtain ⟨b1, b2⟩ := TH.step st s' hp tr ap
        exact q O' Ω σ' H' b1 b2
      · rw [if_neg hp] at q; exact q.elim
    | rt x ρ2 =>
      have q : VPost Y i m (Zo Ω O) H N (if ptrAt i ρ2 then .ok (.rt x ρ2 d) else .no) := q
      by_cases hp : ptrAt i ρ2 = true
      · rw [if_pos hp] at q
        intro O' σ' H' v st s' rv
        obtain ⟨b1, b2⟩ := TH.step st s' hp tr ap
        exact q O' Ω σ' H' v b1 b2 (rv.weak fun c z => z.elim (fun z => .inl (.inl z)) .inr)
      · rw [if_neg hp] at q; exact q.elim
    | xx e ρ2 =>
      have q : VPost Y i m (Zo Ω O) H N (if ptrAt i ρ2 then .ok (.xx e ρ2 d) else .no) := q
      by_cases hp : ptrAt i ρ2 = true
      · rw [if_pos hp] at q
        intro O' σ' H' c od st s' rv
        obtain ⟨b1, b2⟩ := TH.step st s' hp tr ap
        exact q O' Ω σ' H' c od b1 b2 (rv.weak fun c z => z.elim (fun z => .inl (.inl z)) .inr)
      · rw [if_neg hp] at q; exact q.elim
def clOfV (Y : Cy) (es : List String) (h : Hd) : Cl := (.ref (Y.G.cm h.1), h.2.1, fun a cls d N σ H => ∃ Ze b, tsOf (Y.tz Ze b) es h.2.1 h.2.2 a cls d N σ H)
theorem clsV {es : List String} (k : Lk X Y) : ∀ (hds : List Hd) (hs : List ExceptHandler), (∀ Ze a, HdsD X (Y.tz Ze a) es hs hds) → ClsOk X hs (hds.map (clOfV Y es))
  | [], hs, h => by
    have h0 := h Y.Ze 0
    cases h0
    exact .nil
  | hd :: hds, hs, h => by
    have h0 := h Y.Ze 0
    cases h0 with
    | cons hc hi hl hex hx r =>
      refine .cons hc hi hl (fun a oe cls d pn hz hf => ⟨fun pins s σ H N I q => ?_⟩) (clsV k hds _ fun Ze a => by
        have h1 := h Ze a
        cases h1 with
        | cons _ _ _ _ _ r1 => exact r1)
      obtain ⟨Ze, b, e, dd, rfl, rfl, he, q⟩ := q
      have h1 := h Ze b
      cases h1 with
      | cons hc1 hi1 hl1 hex1 hx1 r1 => exact (hx1 e a dd oe pn ⟨X, oe, pn, rfl, hz, hf, he⟩ ((k.tz Ze b).su a _)).run pins s σ H N I q
theorem wClV {K : PySem.W.Frag} {Wo : WX} {es : List String} {Ze : Addr → Prop} {b : Addr} {c : Value} {od : Option Addr} : ∀ {hds : List Hd}, wCl K Wo N (hds.map (clOfD (Y.tz Ze b) es)) c od σ H → wCl K Wo N (hds.map (clOfV Y es)) c od σ H
  | [], h => h
  | hd :: hds, h => by
    obtain ⟨t, h1, h2, h3⟩ := h
    exact ⟨t, h1, fun z a ha => ⟨Ze, b, h2 z a ha⟩, fun z => wClV (h3 z)⟩
theorem exrep_nolst {e : Ex} {c : Value} {od : Option Addr} (hz : ∀ c, Z' c → Z c ∨ ∃ us, H c = some (.lst us)) (nl : noLs e.vs = true) (xr : ExRep G Z H e c od) : ExRep G Z' H e c od := by
  obtain ⟨h1, dd, vs, h2, h3, h4, h5⟩ := xr
  refine ⟨h1, dd, vs, h2, h3, h4, ?_⟩
  exact RepL.nolst hz nl h5
theorem pv_try {es : List String} {body : List Stmt} {h0 : ExceptHandler} {hs : List ExceptHandler} {hds : List Hd} {F : DV} {pos : Pos} (hst : X.stack = X.env :: X.outer) (hfr : X.env.frame = some X.env.locals)
    (hb : ∀ (W : WX) (pn : List (Addr × Obj)) (xe : Value → Shared → Prop), PVs (X.tr pn xe) { Y with E := W } i m body F) (hh : ∀ Ze a, HdsD X (Y.tz Ze a) es (h0 :: hs) hds) : PV X Y i m (.Try body (h0 :: hs) [] [] pos) (tryV i es F hds) := fun k => by
  have toE : ∀ {W : WX} {O Ω : Addr → Prop} {ρ : DEnv} {d : D} {σ : L2.St} {H : Hp}, TH Y i m O Ω ρ d σ H → TH { Y with E := W } i m O Ω ρ d σ H := fun ⟨a, sr, hi, tr, ap, po⟩ => ⟨a, SR.reE (Y := Y.tz _ a) (c := Y.ca) sr, hi, tr, ap, po⟩
  have ofE : ∀ {W : WX} {O Ω : Addr → Prop} {ρ : DEnv} {d : D} {σ : L2.St} {H : Hp}, TH { Y with E := W } i m O Ω ρ d σ H → TH Y i m O Ω ρ d σ H := fun ⟨a, sr, hi, tr, ap, po⟩ => ⟨a, SR.unE (Y := Y.tz _ a) (c := Y.ca) sr, hi, tr, ap, po⟩
  refine impPS (ps_tryCl (tb := fun W => tV { Y with E := W } i m F) hst hfr k.nd k.tk (fun W pn xe tk po => hb W pn xe (k.tr tk po)) (clsV k _ _ hh)) fun N σ H ⟨O, Ω, ρ, d, t, q⟩ => ?_
  refine ⟨O, Ω, ρ, d, toE t, ?_⟩
  unfold tryV at q
  cases eo : F ρ d with
  | no => rw [eo] at q; exact q
  | ex z => rw [eo] at q; exact q
  | ok o =>
    rw [eo] at q
    cases o with
    | nx ρ2 d2 => exact fun O' Ω' σ' H' z t' => q O' Ω' σ' H' z (ofE t')
    | bk ρ2 d2 => exact fun O' Ω' σ' H' z t' => q O' Ω' σ' H' z (ofE t')
    | ct ρ2 d2 => exact fun O' Ω' σ' H' z t' => q O' Ω' σ' H' z (ofE t')
    | rt x ρ2 d2 => exact fun O' Ω' σ' H' v z t' rv => q O' Ω' σ' H' v z (ofE t') rv
    | tt ρ2 d2 => exact fun O' Ω' H' v z tr ap => q O' Ω' H' v z tr ap
    | xx e ρ2 d2 =>
      intro O' Ω' σ' H' c od z t' xr
      have q : VPost Y i m (Zo Ω O) H N (if e.cls ∈ es ∧ noLs e.vs = true then outO i (tryH hds e ρ2) d2 else .no) := q
      split at q
      · rename_i he
        have q := VPost.fwd z q
        obtain ⟨a, sr, hi, tr, ap, po⟩ := ofE t'
        have xr2 : ExRep Y.G (Zo (Zo Y.Ze Ω') O') H' e c od := exrep_nolst (fun c z => by
          rcases z with (z | z) | z
          · exact .inl (.inl z)
          · exact .inr (TR.cells tr c z)
          · exact .inl (.inr z)) he.2 xr
        exact wClV (tryH_post (Y := Y.tz (Zo Y.Ze Ω') a) (k.tz _ a) he.1 (hh _ a) Stp.refl sr xr2 (spost_out tr ap q))
      · exact q.elim
end
section
variable {i j : Nat} {ρ ρ' : DEnv} {d x : D} {G : DV} {F : DVD} {fe : DE} {fs : DA} {e : Ex} {es : List String} {hs : List Hd} {l : List D}
theorem q_acF : aConsF fe fs ρ = (fe ρ).bind fun d => match d with
  | .lst x => (fs ρ).bind fun ds => .ok (.lst x :: ds)
  | _ => .no := rfl
def R.tlS (r : R (List D)) (i : Nat) (F : DVD) (ρ : DEnv) : R Out := match r with
  | .ok ds => if ds.length ≤ lineD then F (ρ.set i (some .ptr)) (.lst ds) else .no
  | _ => .no
theorem q_trL : treeL i fs F ρ = if empAt i ρ = true ∧ noPtr ρ = true then (fs ρ).tlS i F ρ else .no := rfl
theorem tl_ok (h : l.length ≤ 1000000) : (R.ok l).tlS i F ρ = F (ρ.set i (some .ptr)) (.lst l) := if_pos (Nat.le_trans h (by decide))
def R.sxS (r : R D) (i j : Nat) (ρ : DEnv) (d : D) : R OutV := match r with
  | .ok x => if noL x = true then (match setV j x ρ with
    | .ok ρ' => if ptrAt i ρ' then .ok (.nx ρ' d) else .no
    | _ => .no) else .no
  | .ex e => .ok (.xx e ρ d)
  | .no => .no
theorem q_seX : setX_ i j fe ρ d = (fe (vw i ρ d)).sxS i j ρ d := rfl
theorem sx_ex : (R.ex e).sxS i j ρ d = .ok (.xx e ρ d) := rfl
theorem sx_ok (h1 : noL x = true) (h2 : setV j x ρ = .ok ρ') (h3 : ptrAt i ρ' = true) : (R.ok x).sxS i j ρ d = .ok (.nx ρ' d) := by
  unfold R.sxS
  dsimp only
  rw [if_pos h1, h2]
  dsimp only
  rw [if_pos h3]
def R.tyV (r : R OutV) (i : Nat) (es : List String) (hs : List Hd) : R OutV := match r with
  | .ok (.xx e ρ' d') => if e.cls ∈ es ∧ noLs e.vs = true then outO i (tryH hs e ρ') d' else .no
  | r => r
theorem q_tyV : tryV i es G hs ρ d = (G ρ d).tyV i es hs := rfl
theorem tv_nx : (R.ok (OutV.nx ρ d)).tyV i es hs = .ok (.nx ρ d) := rfl
theorem oO_nx : outO i (.ok (.nx ρ')) d = if ptrAt i ρ' then .ok (.nx ρ' d) else .no := rfl
theorem oO_rt : outO i (.ok (.rt x ρ')) d = if ptrAt i ρ' then .ok (.rt x ρ' d) else .no := rfl
theorem oO_xx : outO i (.ok (.xx e ρ')) d = if ptrAt i ρ' then .ok (.xx e ρ' d) else .no := rfl
end
def ev10 := And.intro @q_acF <| And.intro @q_trL <| And.intro @tl_ok <| And.intro @q_seX <| And.intro @sx_ex <| And.intro @q_tyV <| And.intro @tv_nx <| And.intro @oO_nx <| And.intro @oO_rt @oO_xx
end Tw

set_option maxHeartbeats 1000000
namespace PySem
open Sem (wp)
end PySem
namespace L2
open PySem PySem.Spec PyProof.Rows GenW
end L2

namespace Tw
open PySem
inductive OutY where
  | nx (ρ : DEnv) (L : List D) | xx (e : Ex) (ρ : DEnv)
abbrev DY := DEnv → List D → R OutY
end Tw

set_option maxHeartbeats 1000000
namespace Tw
open PySem PySem.Spec L2
open PyProof.Rows hiding St
def YPost (Y : Cy) (O : Addr → Prop) (H : Hp) (N : GEnds) : R OutY → Prop
  | .ok (.nx ρ L) => ∀ O' ys σ' H', Stp O H O' H' → SR Y O' ρ σ' H' → RepL Y.G (Zo Y.Ze O') H' L ys → N.nx ys σ' H'
  | .ok (.xx e ρ) => ∀ O' σ' H' c od, Stp O H O' H' → SR Y O' ρ σ' H' → ExRep Y.G (Zo Y.Ze O') H' e c od → Y.E c od σ' H'
  | _ => False
theorem RepL.stp {G : Gc} {Ze O O' : Addr → Prop} {H H' : Hp} {L : List D} {ys : List V} (st : Stp O H O' H') (r : RepL G (Zo Ze O) H L ys) : RepL G (Zo Ze O') H' L ys :=
  r.mono (fun a o n e => st.1 a o (fun z => n (.inr z)) e) fun a z => z.elim (fun z => .inl (.inl z)) fun z => (st.2 a z).elim (fun z => .inl (.inr z)) .inr
theorem YPost.fwd {Y : Cy} {O O1 : Addr → Prop} {H H1 : Hp} {N : GEnds} {r : R OutY} (st : Stp O H O1 H1) (q : YPost Y O H N r) : YPost Y O1 H1 N r := by
  cases r with
  | no => exact q
  | ex e => exact q
  | ok o => cases o with
    | nx ρ L => exact fun O' ys σ' H' st' => q O' ys σ' H' (st.trans st')
    | xx e ρ => exact fun O' σ' H' c od st' => q O' σ' H' c od (st.trans st')
theorem AllBare.done {s : Shared} {g : Nat} (h : AllBare s.gens) : AllBare (s.setGen g .finished).gens := allBare_setGen h rfl
end Tw

set_option maxHeartbeats 1000000
namespace Tw
open PySem PySem.Spec L2
open PyProof.Rows hiding St
section
variable {X : Cx} {Y : Cy} {tg iter elt : Expr} {ifs : List Expr} {scope : Scope} {own : List (Str × Nat)} {is : List Nat} {fi : DI} {g : DG} {c : DT} {e : DE} {pos : Pos}
theorem pf_comp (hi : PDIw X Y tg iter fi) (ok : BlkOk X.N X.env.scope scope own) (hk : ∀ i ∈ is, i ∈ own.map (·.2))
    (hg : ∀ (Ze : Addr → Prop) (s : Shared) (H : Hp) (C : Addr) (cl : List (Str × Addr)) (fp : List Addr), PDG (X.blk s H scope (compEnvC scope cl C X.env) fp) (Y.blk Ze) is tg g)
    (ht : ∀ (Ze : Addr → Prop) (s : Shared) (H : Hp) (C : Addr) (cl : List (Str × Addr)) (fp : List Addr), PDTs (X.blk s H scope (compEnvC scope cl C X.env) fp) (Y.blk Ze) ifs c)
    (he : ∀ (Ze : Addr → Prop) (s : Shared) (H : Hp) (C : Addr) (cl : List (Str × Addr)) (fp : List Addr), PD (X.blk s H scope (compEnvC scope cl C X.env) fp) (Y.blk Ze) elt e)
    (hs : ∀ x, foldedSetIterable iter X.env x = pure x := by intro _; rfl) (hca : Y.ca = true := by rfl) : PDF X Y (.ListComp elt [⟨tg, iter, ifs, 0⟩] scope pos) (eComp fi (own.map (·.2)) g c e) := fun k => by
  refine impPE (pe_lc (k.calm hca) k.nd (hi k) ok (fun s H C cl fp => PG.xall fun Ze => hg Ze s H C cl fp (k.blk s H scope _ fp Ze)) (fun s H C cl fp => PTs.xall fun Ze => ht Ze s H C cl fp (k.blk s H scope _ fp Ze)) (fun s H C cl fp => PE.xall fun Ze => he Ze s H C cl fp (k.blk s H scope _ fp Ze)) hs) fun σ H Q ⟨O, ρ, s, q⟩ => ?_
  unfold eComp at q
  refine comp_imp hk σ H O ρ s (fun e' ee => by rw [ee] at q; exact q) ?_
  cases ea : fi ρ with
  | no => rw [ea] at q; exact q.elim
  | ex e' => exact ⟨[], [], .inr ⟨e', rfl⟩⟩
  | ok l =>
    rw [ea] at q
    simp only [R.bind_ok] at q
    split at q
    · rename_i hl
      cases ec : compL g c e (wipD (own.map (·.2)) ρ) l with
      | no => rw [ec] at q; exact q.elim
      | ex e' => exact (compL_ex ec).elim
      | ok ys =>
        rw [ec] at q
        exact ⟨l, ys, .inl ⟨rfl, hl.1, hl.2, ec, fun D H' us s1 h0 h1 r => q D H' s1 h0 (by rw [h1]; exact fun z => by cases z) ⟨D, us, rfl, h1, r⟩⟩⟩
    · exact q.elim
end
end Tw

namespace Tw
open PySem
section
variable {α β : Type} {i j n : Nat} {ρ ρ' : DEnv} {x y d v : D} {o : Option Slot} {a b c e : DE} {s t : DS} {as : DA} {is vs : List Nat} {f : Str} {p q : DT} {l m : List D} {it : DI} {g : DG}
def R.seq (r : R Out) (b : DS) : R Out := match r with
  | .ok (.nx ρ) => b ρ
  | r => r
theorem sq_nx : (R.ok (Out.nx ρ)).seq t = t ρ := rfl
theorem sq_rt : (R.ok (Out.rt d ρ)).seq t = .ok (.rt d ρ) := rfl
theorem sq_bk : (R.ok (Out.bk ρ)).seq t = .ok (.bk ρ) := rfl
theorem sq_ct : (R.ok (Out.ct ρ)).seq t = .ok (.ct ρ) := rfl
theorem sq_xx {z : Ex} : (R.ok (Out.xx z ρ)).seq t = .ok (.xx z ρ) := rfl
theorem q_seq : sSeq s t ρ = (s ρ).seq t := rfl
theorem q_next : sNext ρ = .ok (.nx ρ) := rfl
theorem q_brk : sBrk ρ = .ok (.bk ρ) := rfl
theorem q_cnt : sCnt ρ = .ok (.ct ρ) := rfl
def iteS (k : Bool) (s t : DS) (ρ : DEnv) : R Out := if k then s ρ else t ρ
theorem ite_t : iteS true s t ρ = s ρ := rfl
theorem ite_f : iteS false s t ρ = t ρ := rfl
theorem q_if : sIf p s t ρ = (p ρ).st ρ fun k => iteS k s t ρ := rfl
theorem v_z : eVar 0 (some (.val d) :: ρ) = .ok d := rfl
theorem v_s : eVar (i + 1) (o :: ρ) = eVar i ρ := rfl
theorem k_zv : eLook 0 (some (.val d) :: ρ) = .ok d := rfl
theorem k_zo : eLook 0 (some (.own d) :: ρ) = .ok d := rfl
theorem k_s : eLook (i + 1) (o :: ρ) = eLook i ρ := rfl
theorem st_zn : setV 0 d (none :: ρ) = .ok (some (.val d) :: ρ) := rfl
theorem st_zv : setV 0 d (some (.val v) :: ρ) = .ok (some (.val d) :: ρ) := rfl
theorem st_zo : setV 0 d (some (.own v) :: ρ) = .ok (some (.val d) :: ρ) := rfl
theorem so_zn : setO 0 d (none :: ρ) = .ok (some (.own d) :: ρ) := rfl
theorem so_zv : setO 0 d (some (.val v) :: ρ) = .ok (some (.own d) :: ρ) := rfl
theorem so_zo : setO 0 d (some (.own v) :: ρ) = .ok (some (.own d) :: ρ) := rfl
def consR (o : Option Slot) (r : R DEnv) : R DEnv := r.bind fun ρ => .ok (o :: ρ)
theorem cr_ok : consR o (.ok ρ) = .ok (o :: ρ) := rfl
theorem st_s : setV (i + 1) d (o :: ρ) = consR o (setV i d ρ) := by
  unfold setV consR
  simp only [List.getElem?_cons_succ, List.set_cons_succ]
  cases h : ρ[i]? with
  | none => rfl
  | some o => cases o with
    | none => rfl
    | some o => cases o <;> rfl
theorem so_s : setO (i + 1) d (o :: ρ) = consR o (setO i d ρ) := by
  unfold setO consR
  simp only [List.getElem?_cons_succ, List.set_cons_succ]
  cases h : ρ[i]? with
  | none => rfl
  | some o => cases o with
    | none => rfl
    | some o => cases o <;> rfl
theorem fz_zo : frzD 0 (some (.own d) :: ρ) = some (.val d) :: ρ := rfl
theorem fz_zv : frzD 0 (some (.val d) :: ρ) = some (.val d) :: ρ := rfl
theorem fz_zn : frzD 0 (none :: ρ) = none :: ρ := rfl
theorem fz_s : frzD (i + 1) (o :: ρ) = o :: frzD i ρ := by
  unfold frzD
  simp only [List.getElem?_cons_succ, List.set_cons_succ]
  cases h : ρ[i]? with
  | none => rfl
  | some o => cases o with
    | none => rfl
    | some o => cases o <;> rfl
theorem cl_zo : clr1 0 (some (.own d) :: ρ) = none :: ρ := rfl
theorem cl_zv : clr1 0 (some (.val d) :: ρ) = none :: ρ := rfl
theorem cl_zn : clr1 0 (none :: ρ) = none :: ρ := rfl
theorem cl_s : clr1 (i + 1) (o :: ρ) = o :: clr1 i ρ := by
  unfold clr1
  simp only [List.getElem?_cons_succ, List.set_cons_succ]
  cases h : ρ[i]? with
  | none => rfl
  | some o => cases o with
    | none => rfl
    | some o => cases o <;> rfl
theorem cd_n : clrD [] ρ = ρ := rfl
theorem cd_c : clrD (i :: is) ρ = clrD is (clr1 i ρ) := rfl
def frzL (is : List Nat) (ρ : DEnv) : DEnv := is.foldl (fun r i => frzD i r) ρ
theorem fl_n : frzL [] ρ = ρ := rfl
theorem fl_c : frzL (i :: is) ρ = frzL is (frzD i ρ) := rfl
theorem q_frz : sFrz is s ρ = s (frzL is ρ) := rfl
theorem q_clr : sClr is ρ = .ok (.nx (clrD is ρ)) := rfl
theorem wp_n : wipD [] ρ = ρ := rfl
theorem wp_c : wipD (i :: is) ρ = (wipD is ρ).set i none := rfl
def ok1 (i : Nat) (ρ : DEnv) : Bool := match ρ[i]? with
  | some none => true
  | some (some (.val _)) => true
  | _ => false
theorem ow_n : okW [] ρ = true := rfl
theorem ow_c : okW (i :: is) ρ = (ok1 i ρ && okW is ρ) := rfl
theorem o1_zn : ok1 0 (none :: ρ) = true := rfl
theorem o1_zv : ok1 0 (some (.val d) :: ρ) = true := rfl
theorem o1_s : ok1 (i + 1) (o :: ρ) = ok1 i ρ := rfl
theorem t_z {o' : Option Slot} : (o :: ρ).set 0 o' = o' :: ρ := rfl
theorem t_s {o' : Option Slot} : (o :: ρ).set (i + 1) o' = o :: ρ.set i o' := rfl
theorem q_c : eC d ρ = .ok d := rfl
theorem q_e1 {h : D → Option D} : e1 h a ρ = (a ρ).bind fun x => R.of (h x) := rfl
theorem q_e2 {h : D → D → Option D} : e2 h a b ρ = (a ρ).bind fun x => (b ρ).bind fun y => R.of (h x y) := rfl
theorem q_an : aNil ρ = .ok [] := rfl
theorem q_ac : aCons a as ρ = (a ρ).bind fun x => (as ρ).bind fun xs => .ok (x :: xs) := rfl
theorem q_call {h : List D → R D} : eCall h as ρ = (as ρ).bind h := rfl
def methS (cs : List String) (h : List D → R D) (as : DA) (ρ : DEnv) (x : D) : R D := match x with
  | .obj c ks vs => if c ∈ cs then (as ρ).bind fun xs => h (.obj c ks vs :: xs) else .no
  | _ => .no
theorem q_meth {cs : List String} {h : List D → R D} : eMeth cs h a as ρ = (a ρ).bind (methS cs h as ρ) := by
  unfold eMeth methS
  cases a ρ with
  | ok x => cases x <;> rfl
  | ex e => rfl
  | no => rfl
theorem m_obj {cn : String} {h : List D → R D} {ks : List Str} {ds : List D} : methS [cn] h as ρ (.obj cn ks ds) = (as ρ).bind fun xs => h (.obj cn ks ds :: xs) := if_pos List.mem_cons_self
theorem m_obj2 {cn cm : String} {h : List D → R D} {ks : List Str} {ds : List D} : methS [cn, cm] h as ρ (.obj cn ks ds) = (as ρ).bind fun xs => h (.obj cn ks ds :: xs) := if_pos List.mem_cons_self
theorem m_obj3 {cn cm : String} {h : List D → R D} {ks : List Str} {ds : List D} : methS [cm, cn] h as ρ (.obj cn ks ds) = (as ρ).bind fun xs => h (.obj cn ks ds :: xs) := if_pos (List.mem_cons_of_mem _ List.mem_cons_self)
def seqS (mk : List D → D) (xs : List D) : R D := if xs.length ≤ lineD then .ok (mk xs) else .no
theorem q_tup : eTup as ρ = (as ρ).bind (seqS .tup) := rfl
theorem q_lst : eLst as ρ = (as ρ).bind (seqS .lst) := rfl
variable {mk : List D → D} {x0 x1 x2 x3 x4 x5 x6 x7 x8 x9 : D}
theorem sS (h : l.length ≤ 1000000) : seqS mk l = .ok (mk l) := if_pos (Nat.le_trans h (by decide))
theorem sS0 : seqS mk [] = .ok (mk []) := sS (Nat.le_of_ble_eq_true rfl)
theorem sS1 : seqS mk [x0] = .ok (mk [x0]) := sS (Nat.le_of_ble_eq_true rfl)
theorem sS2 : seqS mk [x0, x1] = .ok (mk [x0, x1]) := sS (Nat.le_of_ble_eq_true rfl)
theorem sS3 : seqS mk [x0, x1, x2] = .ok (mk [x0, x1, x2]) := sS (Nat.le_of_ble_eq_true rfl)
theorem sS4 : seqS mk [x0, x1, x2, x3] = .ok (mk [x0, x1, x2, x3]) := sS (Nat.le_of_ble_eq_true rfl)
theorem sS5 : seqS mk [x0, x1, x2, x3, x4] = .ok (mk [x0, x1, x2, x3, x4]) := sS (Nat.le_of_ble_eq_true rfl)
theorem sS6 : seqS mk [x0, x1, x2, x3, x4, x5] = .ok (mk [x0, x1, x2, x3, x4, x5]) := sS (Nat.le_of_ble_eq_true rfl)
theorem sS7 : seqS mk [x0, x1, x2, x3, x4, x5, x6] = .ok (mk [x0, x1, x2, x3, x4, x5, x6]) := sS (Nat.le_of_ble_eq_true rfl)
theorem sS8 : seqS mk [x0, x1, x2, x3, x4, x5, x6, x7] = .ok (mk [x0, x1, x2, x3, x4, x5, x6, x7]) := sS (Nat.le_of_ble_eq_true rfl)
def ifE (k : Bool) (a b : DE) (ρ : DEnv) : R D := if k then a ρ else b ρ
theorem q_ife : eIf p a b ρ = (p ρ).bind fun k => ifE k a b ρ := rfl
theorem ie_t : ifE true a b ρ = a ρ := rfl
theorem ie_f : ifE false a b ρ = b ρ := rfl
def andE (b : DE) (ρ : DEnv) (x : D) : R D := match x with | .bl true => b ρ | .bl false => .ok (.bl false) | _ => .no
def orE (b : DE) (ρ : DEnv) (x : D) : R D := match x with | .bl false => b ρ | .bl true => .ok (.bl true) | _ => .no
def notE (x : D) : R D := match x with | .bl k => .ok (.bl (!k)) | _ => .no
theorem q_and : eAnd a b ρ = (a ρ).bind (andE b ρ) := by
  unfold eAnd andE
  cases a ρ with
  | ok x => cases x <;> first | rfl | (rename_i k; cases k <;> rfl)
  | ex e => rfl
  | no => rfl
theorem q_or : eOr a b ρ = (a ρ).bind (orE b ρ) := by
  unfold eOr orE
  cases a ρ with
  | ok x => cases x <;> first | rfl | (rename_i k; cases k <;> rfl)
  | ex e => rfl
  | no => rfl
theorem q_not : eNot a ρ = (a ρ).bind notE := by
  unfold eNot notE
  cases a ρ with
  | ok x => cases x <;> rfl
  | ex e => rfl
  | no => rfl
theorem ae_t : andE b ρ (.bl true) = b ρ := rfl
theorem ae_f : andE b ρ (.bl false) = .ok (.bl false) := rfl
theorem oe_t : orE b ρ (.bl true) = .ok (.bl true) := rfl
theorem oe_f : orE b ρ (.bl false) = b ρ := rfl
theorem ne_k {k : Bool} : notE (.bl k) = .ok (.bl (!k)) := rfl
theorem q_xn : xNone ρ = .ok none := rfl
def ixS (x : D) : R (Option Int) := match x with | .int i => .ok (some i) | _ => .no
theorem q_xs : xSome a ρ = (a ρ).bind ixS := by
  unfold xSome ixS
  cases a ρ with
  | ok x => cases x <;> rfl
  | ex e => rfl
  | no => rfl
theorem xi_i {k : Int} : ixS (.int k) = .ok (some k) := rfl
theorem q_sl {lo hi : DO} : eSl a lo hi ρ = (a ρ).bind fun x => (lo ρ).bind fun l => (hi ρ).bind fun h => R.of (oSl l h x) := rfl
def tvS (x : D) : R Bool := match x with | .bl k => .ok k | _ => .no
theorem q_tv : tVal a ρ = (a ρ).bind tvS := by
  unfold tVal tvS
  cases a ρ with
  | ok x => cases x <;> rfl
  | ex e => rfl
  | no => rfl
theorem tv_b {k : Bool} : tvS (.bl k) = .ok k := rfl
theorem q_tt : tTru a ρ = (a ρ).bind fun x => R.of (truD x) := rfl
def andT (k : Bool) (q : DT) (ρ : DEnv) : R Bool := if k then q ρ else .ok false
def orT (k : Bool) (q : DT) (ρ : DEnv) : R Bool := if k then .ok true else q ρ
theorem q_ta : tAndD p q ρ = (p ρ).bind fun k => andT k q ρ := rfl
theorem q_to : tOrD p q ρ = (p ρ).bind fun k => orT k q ρ := rfl
theorem q_tn : tNotD p ρ = (p ρ).bind fun k => .ok (!k) := rfl
theorem at_t : andT true q ρ = q ρ := rfl
theorem at_f : andT false q ρ = .ok false := rfl
theorem ot_t : orT true q ρ = .ok true := rfl
theorem ot_f : orT false q ρ = q ρ := rfl
theorem q_ty : tYesD ρ = .ok true := rfl
theorem q_set : sSet i a ρ = (a ρ).st ρ fun d => (setV i d ρ).bind fun ρ' => .ok (.nx ρ') := rfl
theorem q_own : sOwn i a ρ = (a ρ).st ρ fun d => (setO i d ρ).bind fun ρ' => .ok (.nx ρ') := rfl
theorem q_asg : sAsg a g ρ = (a ρ).st ρ fun d => (g d ρ).bind fun ρ' => .ok (.nx ρ') := rfl
theorem q_drop : sDrop a ρ = (a ρ).st ρ fun _ => .ok (.nx ρ) := rfl
theorem q_ret : sRet a ρ = (a ρ).st ρ fun d => .ok (.rt d ρ) := rfl
theorem q_retn : sRetN ρ = .ok (.rt .non ρ) := rfl
def getO (i : Nat) (ρ : DEnv) : Option Slot := match ρ[i]? with | some o => o | none => none
theorem go_z : getO 0 (o :: ρ) = o := rfl
theorem go_s : getO (i + 1) (o :: ρ) = getO i ρ := rfl
def appS (i : Nat) (e : DE) (ρ : DEnv) (o : Option Slot) : R Out := match o with
  | some (.own (.lst l)) => (e ρ).st ρ fun y => if l.length < lineD then .ok (.nx (ρ.set i (some (.own (.lst (l ++ [y])))))) else .no
  | _ => .no
theorem q_app : sApp i a ρ = appS i a ρ (getO i ρ) := by
  unfold sApp appS getO
  cases h : ρ[i]? with
  | none => rfl
  | some o => cases o with
    | none => rfl
    | some o => cases o <;> first | rfl | (rename_i d; cases d <;> rfl)
def ltS {α : Type} (n : Nat) (r : R α) : R α := if n < lineD then r else .no
theorem lt_ok {r : R α} (h : n < 1000000) : ltS n r = r := if_pos (Nat.lt_trans h (by decide))
theorem ap_l : appS i a ρ (some (.own (.lst l))) = (a ρ).st ρ fun y => ltS l.length (.ok (.nx (ρ.set i (some (.own (.lst (l ++ [y]))))))) := rfl
def clrS (i : Nat) (ρ : DEnv) (o : Option Slot) : R Out := match o with
  | some (.own (.lst _)) => .ok (.nx (ρ.set i (some (.own (.lst [])))))
  | _ => .no
theorem q_clear : sClear i ρ = clrS i ρ (getO i ρ) := by
  unfold sClear clrS getO
  cases h : ρ[i]? with
  | none => rfl
  | some o => cases o with
    | none => rfl
    | some o => cases o <;> first | rfl | (rename_i d; cases d <;> rfl)
theorem cs_l : clrS i ρ (some (.own (.lst l))) = .ok (.nx (ρ.set i (some (.own (.lst []))))) := rfl
def augS (i : Nat) (h : D → D → Option D) (e : DE) (ρ : DEnv) (o : Option Slot) : R Out := match o with
  | some (.val x) => (e ρ).st ρ fun y => (R.of (h x y)).bind fun z => (setV i z ρ).bind fun ρ' => .ok (.nx ρ')
  | _ => .no
theorem q_aug {h : D → D → Option D} : sAug i h a ρ = augS i h a ρ (getO i ρ) := by
  unfold sAug augS getO
  cases e : ρ[i]? with
  | none => rfl
  | some o => cases o with
    | none => rfl
    | some o => cases o with
      | val x =>
        show R.st _ _ _ = R.st _ _ _
        congr 1
        funext y
        cases h x y <;> rfl
      | _ => rfl
theorem au_v {h : D → D → Option D} : augS i h a ρ (some (.val x)) = (a ρ).st ρ fun y => (R.of (h x y)).bind fun z => (setV i z ρ).bind fun ρ' => .ok (.nx ρ') := rfl
def fldS (i : Nat) (f : Str) (v : D) (ρ : DEnv) (o : Option Slot) : R Out := match o with
  | some (.slf d) => (R.of (putF f v d)).bind fun d' => .ok (.nx (ρ.set i (some (.slf d'))))
  | _ => .no
theorem q_fld : sFld i f a ρ = (a ρ).st ρ fun v => fldS i f v ρ (getO i ρ) := by
  unfold sFld fldS getO
  congr 1
  funext v
  cases e : ρ[i]? with
  | none => rfl
  | some o => cases o with
    | none => rfl
    | some o => cases o with
      | slf d =>
        show (match putF f v d with | some d' => _ | _ => _) = (R.of (putF f v d)).bind _
        cases putF f v d <;> rfl
      | _ => rfl
theorem fs_s : fldS i f v ρ (some (.slf d)) = (R.of (putF f v d)).bind fun d' => .ok (.nx (ρ.set i (some (.slf d')))) := rfl
theorem q_for : sFor it g is s ρ = (it ρ).st ρ fun l => forL g is s l (clrD is ρ) := rfl
def R.lp (r : R Out) (is : List Nat) (k : DEnv → R Out) : R Out := match r with
  | .ok (.nx ρ) => k (clrD is ρ)
  | .ok (.ct ρ) => k (clrD is ρ)
  | .ok (.bk ρ) => .ok (.nx ρ)
  | r => r
theorem lp_nx {k : DEnv → R Out} : (R.ok (Out.nx ρ)).lp is k = k (clrD is ρ) := rfl
theorem lp_ct {k : DEnv → R Out} : (R.ok (Out.ct ρ)).lp is k = k (clrD is ρ) := rfl
theorem lp_bk {k : DEnv → R Out} : (R.ok (Out.bk ρ)).lp is k = .ok (.nx ρ) := rfl
theorem lp_rt {k : DEnv → R Out} : (R.ok (Out.rt d ρ)).lp is k = .ok (.rt d ρ) := rfl
theorem lp_xx {k : DEnv → R Out} {z : Ex} : (R.ok (Out.xx z ρ)).lp is k = .ok (.xx z ρ) := rfl
theorem f_n : forL g is s [] ρ = .ok (.nx ρ) := rfl
theorem f_c : forL g is s (x :: l) ρ = ((g x ρ).bind s).lp is (forL g is s l) := by
  show (match (g x ρ).bind s with | .ok (.nx ρ') => _ | .ok (.ct ρ') => _ | .ok (.bk ρ') => _ | r => r) = _
  unfold R.lp
  cases (g x ρ).bind s with
  | ok o => cases o <;> rfl
  | ex e => rfl
  | no => rfl
theorem g_v : gVar i x ρ = setV i x ρ := rfl
theorem g_t : gTupD is (.tup l) ρ = gVars is l ρ := rfl
theorem g_vn : gVars [] [] ρ = .ok ρ := rfl
theorem g_vc : gVars (i :: is) (x :: l) ρ = (setV i x ρ).bind fun ρ' => gVars is l ρ' := rfl
theorem q_io : iOf a ρ = (a ρ).bind fun x => R.of (iterD x) := rfl
theorem q_ir : iRange a ρ = (a ρ).bind rngR := rfl
theorem rg_i {k : Int} (h : 0 ≤ k) (h2 : k < 1000000000) : rngR (.int k) = .ok (rangeD k) := rngR_ok (rngOk_of h h2)
theorem rg_n {k : Nat} (h2 : k < 1000000000) : rngR (.int k) = .ok ((List.range k).map fun i : Nat => .int i) := by
  rw [rg_i (Int.natCast_nonneg k) (by omega)]
  rfl
def cStep (g : DG) (c : DT) (e : DE) (ρ : DEnv) (x : D) : R (Option D) := (g x ρ).bind fun ρ' => (c ρ').bind fun k => if k then (e ρ').bind fun y => .ok (some y) else .ok none
theorem compL_fm (h : α → D) (w : α → Option D) : ∀ l : List α, (∀ x ∈ l, cStep g p e ρ (h x) = .ok (w x)) → compL g p e ρ (l.map h) = .ok (l.filterMap w)
  | [], _ => rfl
  | x :: l, hs => by
    have ih := compL_fm h w l fun y hy => hs y (List.mem_cons_of_mem _ hy)
    have h1 := hs x List.mem_cons_self
    unfold cStep at h1
    rw [List.map_cons]
    unfold compL
    cases e1 : g (h x) ρ with
    | ex z => rw [e1] at h1; cases h1
    | no => rw [e1] at h1; cases h1
    | ok ρ1 =>
      rw [e1] at h1
      simp only [R.bind_ok] at h1 ⊢
      cases e2 : p ρ1 with
      | ex z => rw [e2] at h1; cases h1
      | no => rw [e2] at h1; cases h1
      | ok k =>
        rw [e2] at h1
        simp only [R.bind_ok] at h1
        cases k with
        | false =>
          simp only [Bool.false_eq_true, if_false] at h1
          cases hw : w x with
          | none => simp only [List.filterMap_cons, hw, ih]
          | some y => rw [hw] at h1; cases h1
        | true =>
          simp only [if_true] at h1
          cases e3 : e ρ1 with
          | ex z => rw [e3] at h1; cases h1
          | no => rw [e3] at h1; cases h1
          | ok y =>
            rw [e3] at h1
            simp only [R.bind_ok] at h1
            cases hw : w x with
            | none => rw [hw] at h1; cases h1
            | some y' =>
              rw [hw] at h1
              cases h1
              simp only [List.filterMap_cons, hw, ih]
def compS (g : DG) (p : DT) (e : DE) (vs : List Nat) (ρ : DEnv) (l : List D) : R D := if l.length ≤ lineD ∧ okW vs ρ = true then (compL g p e (wipD vs ρ) l).bind fun ys => .ok (.lst ys) else .no
theorem q_comp : eComp it vs g p e ρ = (it ρ).bind (compS g p e vs ρ) := rfl
/-- a comprehension over l.map h -/
theorem comp_fm (h : α → D) (w : α → Option D) {l : List α} (hl : l.length ≤ 1000000) (ho : okW vs ρ = true) (hs : ∀ x ∈ l, cStep g p e (wipD vs ρ) (h x) = .ok (w x)) : compS g p e vs ρ (l.map h) = .ok (.lst (l.filterMap w)) := by
  unfold compS
  rw [if_pos ⟨by rw [List.length_map]; exact Nat.le_trans hl (by decide), ho, ⟩, compL_fm h w l hs]
  rfl
theorem comp_map (h : α → D) (w : α → D) {l : List α} (hl : l.length ≤ 1000000) (ho : okW vs ρ = true) (hs : ∀ x ∈ l, cStep g p e (wipD vs ρ) (h x) = .ok (some (w x))) : compS g p e vs ρ (l.map h) = .ok (.lst (l.map w)) := by
  rw [comp_fm h (fun x => some (w x)) hl ho hs]
  exact congrArg (fun z => R.ok (D.lst z)) (congrFun List.filterMap_eq_map l)
def finD (r : R Out) : R D := match r with
  | .ok (.rt d _) => .ok d
  | .ok (.nx _) => .ok .non
  | .ok (.xx e _) => .ex e
  | _ => .no
theorem fd_rt : finD (.ok (.rt d ρ)) = .ok d := rfl
theorem fd_nx : finD (.ok (.nx ρ)) = .ok .non := rfl
theorem fd_xx {z : Ex} : finD (.ok (.xx z ρ)) = .ex z := rfl
def finI (r : R Out) : R (D × D) := match r with
  | .ok (.rt d ρ) => slfP ρ d
  | .ok (.nx ρ) => slfP ρ .non
  | .ok (.xx e _) => .ex e
  | _ => .no
theorem fi_nx : finI (.ok (.nx ρ)) = slfP ρ .non := rfl
theorem fi_rt : finI (.ok (.rt d ρ)) = slfP ρ d := rfl
theorem fi_xx {z : Ex} : finI (.ok (.xx z ρ)) = .ex z := rfl
end
section
variable {i j : Int} {a b : Bool} {s t f : Str} {l m ds : List D} {k : Nat} {ks : List Str} {c : String} {ns : List Int}
theorem p_add : oAdd (.int i) (.int j) = some (.int (i + j)) := rfl
theorem p_sub : oSub (.int i) (.int j) = some (.int (i - j)) := rfl
theorem p_adds (h : s.length + t.length ≤ 1000000) : oAdd (.str s) (.str t) = some (.str (s ++ t)) := if_pos (Nat.le_trans h (by decide))
theorem p_addl (h : l.length + m.length ≤ 1000000) : oAdd (.lst l) (.lst m) = some (.lst (l ++ m)) := if_pos (Nat.le_trans h (by decide))
theorem p_addt (h : l.length + m.length ≤ 1000000) : oAdd (.tup l) (.tup m) = some (.tup (l ++ m)) := if_pos (Nat.le_trans h (by decide))
theorem p_mod (h : 0 < j) : oMod (.int i) (.int j) = some (.int (i % j)) := if_pos h
theorem p_fdiv (h : 0 < j) (h2 : j < 1073741824) : oFdiv (.int i) (.int j) = some (.int (i / j)) := if_pos ⟨h, h2⟩
theorem p_lt : oLt (.int i) (.int j) = some (.bl (decide (i < j))) := rfl
theorem p_le : oLe (.int i) (.int j) = some (.bl (decide (i ≤ j))) := rfl
theorem p_gt : oGt (.int i) (.int j) = some (.bl (decide (j < i))) := rfl
theorem p_ge : oGe (.int i) (.int j) = some (.bl (decide (j ≤ i))) := rfl
theorem p_eqi : oEq (.int i) (.int j) = some (.bl (decide (i = j))) := by
  show some (D.bl (i == j)) = _
  by_cases h : i = j <;> simp [h]
theorem p_nei : oNe (.int i) (.int j) = some (.bl (!decide (i = j))) := by
  show some (D.bl (!(i == j))) = _
  by_cases h : i = j <;> simp [h]
theorem p_eqs : oEq (.str s) (.str t) = some (.bl (s == t)) := rfl
theorem p_nes : oNe (.str s) (.str t) = some (.bl (!(s == t))) := rfl
theorem p_eqb : oEq (.bl a) (.bl b) = some (.bl (a == b)) := rfl
theorem p_neb : oNe (.bl a) (.bl b) = some (.bl (!(a == b))) := rfl
theorem p_int : oInt (.int i) = some (.int i) := rfl
theorem p_intb : oInt (.bl a) = some (.int (if a then 1 else 0)) := rfl
theorem p_neg : oNeg (.int i) = some (.int (-i)) := rfl
theorem p_lenl : oLen (.lst l) = some (.int l.length) := rfl
theorem p_lent : oLen (.tup l) = some (.int l.length) := rfl
theorem p_lenc : oLen (.scr ns) = some (.int ns.length) := rfl
theorem p_lens (h : s.length ≤ 1000000) : oLen (.str s) = some (.int s.length) := if_pos (Nat.le_trans h (by decide))
theorem p_listl : oList (.lst l) = some (.lst l) := rfl
theorem p_listt : oList (.tup l) = some (.lst l) := rfl
theorem p_tupl : oTuple (.lst l) = some (.tup l) := rfl
theorem p_tupt : oTuple (.tup l) = some (.tup l) := rfl
theorem p_max : oMax (.int i) (.int j) = some (.int (if j > i then j else i)) := rfl
theorem p_isn : oIsN .non = some (.bl true) := rfl
theorem p_isnn : oIsNotN .non = some (.bl false) := rfl
theorem p_ixl : oIx (.lst l) (.int i) = atD l i := by
  show (match atD l i with | some v => some v | none => none) = _
  cases atD l i <;> rfl
theorem p_ixt : oIx (.tup l) (.int i) = atD l i := by
  show (match atD l i with | some v => some v | none => none) = _
  cases atD l i <;> rfl
theorem p_ixc : oIx (.scr ns) (.int i) = (atD ns i).map .int := by
  show (match atD ns i with | some v => some (D.int v) | none => none) = _
  cases atD ns i <;> rfl
theorem p_ixd : oIx (.dct ks ds) (.str s) = lookD ks ds s := by
  show (match lookD ks ds s with | some v => some v | none => none) = _
  cases lookD ks ds s <;> rfl
theorem p_fld : oFld f (.obj c ks ds) = lookD ks ds f := by
  show (match lookD ks ds f with | some v => some v | none => none) = _
  cases lookD ks ds f <;> rfl
theorem p_at0 {α : Type} {x : α} {l : List α} : atD (x :: l) 0 = some x := rfl
theorem p_atn {α : Type} {l : List α} : atD l (k : Int) = l[k]? := by
  unfold atD
  rw [if_pos (Int.natCast_nonneg k), Int.toNat_natCast]
theorem p_at1 {α : Type} {l : List α} : atD l (-1) = l.getLast? := by
  unfold atD
  rw [if_neg (by decide)]
  cases l with
  | nil => rfl
  | cons x l =>
    rw [if_pos (by simp; omega), List.getLast?_eq_getElem?]
    congr 1
    simp
    omega
theorem p_trub : truD (.bl a) = some a := rfl
theorem p_trul : truD (.lst l) = some (!l.isEmpty) := rfl
theorem p_trut : truD (.tup l) = some (!l.isEmpty) := rfl
theorem p_trun : truD .non = some false := rfl
theorem p_itl : iterD (.lst l) = some l := rfl
theorem p_itt : iterD (.tup l) = some l := rfl
theorem p_isib : oIsi "bool" (.bl a) = some (.bl true) := rfl
theorem p_isit : oIsi "tuple" (.tup l) = some (.bl true) := rfl
theorem p_isil : oIsi "list" (.lst l) = some (.bl true) := rfl
theorem p_isis : oIsi "str" (.str s) = some (.bl true) := rfl
theorem p_isii : oIsi "int" (.int i) = some (.bl true) := rfl
theorem p_isibi : oIsi "bool" (.int i) = some (.bl false) := rfl
theorem b_tt : (true == true) = true := rfl
theorem b_ff : (false == false) = true := rfl
theorem b_tf : (true == false) = false := rfl
theorem b_ft : (false == true) = false := rfl
theorem nt_t : (!true) = false := rfl
theorem nt_f : (!false) = true := rfl
end
end Tw

namespace Tw
open PySem
def b_law_row_1 : DS := sSeq (sApp 3 (e2 oMod (e1 oInt (eVar 4)) (eVar 5))) (sSet 4 (e2 oFdiv (e1 oInt (eVar 4)) (eVar 5)))
def b_law_row_2 : DS := sSeq (sSet 7 (e2 oMod (e1 oInt (e2 oAdd (e2 oAdd (e2 oAdd (e2 oMul (eVar 4) (eC (.int 48271))) (e2 oMul (eVar 1) (eC (.int 7919)))) (e2 oMul (eVar 6) (eC (.int 69621)))) (eC (.int 11)))) (eC (.int 2147483647)))) (sSeq (sSet 7 (e2 oMod (e1 oInt (e2 oAdd (e2 oAdd (e2 oMul (eVar 7) (e2 oAdd (e2 oFdiv (eVar 7) (eC (.int 1024))) (eC (.int 16807)))) (eVar 4)) (eVar 6))) (eC (.int 2147483399)))) (sApp 3 (e2 oMod (e1 oInt (e2 oFdiv (eVar 7) (eC (.int 11)))) (e2 oIx (eVar 2) (eVar 6)))))
def b_law_row : DS := sSeq (sOwn 3 (eLst (aNil))) (sSeq (sSet 4 (e1 oAbs (e1 oInt (eVar 0)))) (sSeq (sIf (tVal (e2 oGe (eVar 4) (e2 oPow (eC (.int 10)) (eC (.int 18))))) (sSeq (sFor (iOf (eVar 2)) (gVar 5) [5] b_law_row_1) (sFrz [3] (sRet (eVar 3)))) (sNext)) (sSeq (sFor (iRange (e1 oLen (eVar 2))) (gVar 6) [6, 7] b_law_row_2) (sFrz [3] (sRet (eVar 3))))))
def d_law_row : List D → R D := defD 8 3 b_law_row
def b_law_cell : DS := sSeq (sIf (tVal (e2 oLt (eVar 1) (e1 oLen (eVar 0)))) (sRet (e1 oInt (e2 oIx (eVar 0) (eVar 1)))) (sNext)) (sRet (e2 oMod (e1 oInt (e2 oAdd (e2 oAdd (e2 oMul (e1 oSum (eVar 0)) (eC (.int 31))) (e2 oMul (eVar 1) (eC (.int 1009)))) (e1 oLen (eVar 0)))) (eC (.int 1000003))))
def d_law_cell : List D → R D := defD 2 2 b_law_cell
def b_law_word : DS := sSeq (sSet 2 (eC (.str "ABCDEFGHIJKLMNOPQRSTUVWXYZabcdefghijklmnopqrstuvwxyz"))) (sSeq (sSet 3 (e2 oIx (eLst (aCons (eC (.str "")) (aCons (eC (.str "q")) (aCons (eC (.str "Zx")) (aCons (eC (.str "n7w")) (aNil)))))) (e2 oMod (e1 oInt (eVar 0)) (eC (.int 4))))) (sSeq (sSet 4 (e2 oIx (eLst (aCons (eC (.str "")) (aCons (eC (.str "0")) (aCons (eC (.str "aB")) (aCons (eC (.str "9k")) (aNil)))))) (e2 oMod (e2 oFdiv (e1 oInt (eVar 0)) (eC (.int 4))) (eC (.int 4))))) (sSeq (sIf (tVal (e2 oEq (e2 oMod (e2 oFdiv (e1 oInt (eVar 0)) (eC (.int 16))) (eC (.int 2))) (eC (.int 1)))) (sSet 4 (e2 oAdd (eVar 4) (e2 oMul (eC (.str "z")) (e1 oInt (e2 oMod (e1 oInt (eVar 1)) (eC (.int 2))))))) (sNext)) (sSeq (sIf (tVal (e2 oGe (eVar 1) (eC (.int 52)))) (sSet 4 (e2 oAdd (eC (.str "y")) (eVar 4))) (sNext)) (sRet (e2 oAdd (e2 oAdd (eVar 3) (e2 oIx (eVar 2) (e2 oMod (e1 oInt (e2 oAdd (e2 oMul (eVar 1) (eC (.int 5))) (e2 oFdiv (e1 oInt (eVar 0)) (eC (.int 32))))) (eC (.int 52))))) (eVar 4)))))))
def d_law_word : List D → R D := defD 5 2 b_law_word
def b_Titled_is_word_1 : DS := sIf (tAndD (tVal (e2 oNotIn (eVar 1) (eC (.str "ABCDEFGHIJKLMNOPQRSTUVWXYZabcdefghijklmnopqrstuvwxyz")))) (tVal (e2 oNotIn (eVar 1) (eC (.str "0123456789"))))) (sRet (eC (.bl false))) (sNext)
def b_Titled_is_word : DS := sSeq (sIf (tOrD (tVal (e2 oLt (e1 oLen (eVar 0)) (eC (.int 1)))) (tOrD (tVal (e2 oGt (e1 oLen (eVar 0)) (eC (.int 8)))) (tVal (e2 oNotIn (e2 oIx (eVar 0) (eC (.int 0))) (eC (.str "ABCDEFGHIJKLMNOPQRSTUVWXYZabcdefghijklmnopqrstuvwxyz")))))) (sRet (eC (.bl false))) (sNext)) (sSeq (sFor (iOf (eVar 0)) (gVar 1) [1] b_Titled_is_word_1) (sRet (eC (.bl true))))
def d_Titled_is_word : List D → R D := defD 2 1 b_Titled_is_word
def b_Declaring_init_1 : DS := sSeq (sIf (tNotD (tTru (eCall d_Titled_is_word (aCons (eVar 4) (aNil))))) (sRaise "InvalidWord" ["word"] (aCons (eVar 4) (aNil))) (sNext)) (sSeq (sIf (tVal (e2 oIn (eVar 4) (eLook 3))) (sRaise "DuplicateName" ["name"] (aCons (eVar 4) (aNil))) (sNext)) (sApp 3 (eVar 4)))
def b_Declaring_init : DS := sSeq (sOwn 3 (eLst (aNil))) (sSeq (sFor (iOf (e2 oAdd (e1 oList (eVar 1)) (e1 oList (eVar 2)))) (gVar 4) [4] b_Declaring_init_1) (sSeq (sFld 0 "names" (e1 oTuple (eVar 1))) (sFld 0 "statics" (e1 oTuple (eVar 2)))))
def d_Declaring_init : D → List D → R (D × D) := initP 5 3 b_Declaring_init
def b_Declaring_declares : DS := sRet (eOr (e2 oIn (eVar 1) (e1 (oFld "names") (eVar 0))) (e2 oIn (eVar 1) (e1 (oFld "statics") (eVar 0))))
def d_Declaring_declares : List D → R D := defD 2 2 b_Declaring_declares
def b_Declaring_is_static : DS := sRet (e2 oIn (eVar 1) (e1 (oFld "statics") (eVar 0)))
def d_Declaring_is_static : List D → R D := defD 2 2 b_Declaring_is_static
def b_Titled_init : DS := sSeq (sIf (tNotD (tTru (eCall d_Titled_is_word (aCons (eVar 1) (aNil))))) (sRaise "InvalidWord" ["word"] (aCons (eVar 1) (aNil))) (sNext)) (sFld 0 "title" (eVar 1))
def d_Titled_init : D → List D → R (D × D) := initP 2 2 b_Titled_init
theorem e_Titled_init (s x0 : D) : d_Titled_init s [x0] = finI (b_Titled_init [some (.slf s), some (.val x0)]) := id rfl
theorem e_Declaring_init (s x0 x1 : D) : d_Declaring_init s [x0, x1] = finI (b_Declaring_init [some (.slf s), some (.val x0), some (.val x1), none, none]) := id rfl
def b_Draft_init_1 : DS := sSeq (sIf (tVal (e2 oIn (e1 (oFld "title") (eVar 6)) (eLook 5))) (sRaise "DuplicateBase" ["title"] (aCons (e1 (oFld "title") (eVar 6)) (aNil))) (sNext)) (sApp 5 (e1 (oFld "title") (eVar 6)))
def b_Draft_init : DS := sSeq (sInitC 0 d_Titled_init (aCons (eVar 1) (aNil))) (sSeq (sInitC 0 d_Declaring_init (aCons (eVar 2) (aCons (eVar 3) (aNil)))) (sSeq (sOwn 5 (eLst (aNil))) (sSeq (sFor (iOf (eVar 4)) (gVar 6) [6] b_Draft_init_1) (sFld 0 "bases" (e1 oTuple (eVar 4))))))
def d_Draft_init : D → List D → R (D × D) := initP 7 5 b_Draft_init
theorem e_Draft_init (s x0 x1 x2 x3 : D) : d_Draft_init s [x0, x1, x2, x3] = finI (b_Draft_init [some (.slf s), some (.val x0), some (.val x1), some (.val x2), some (.val x3), none, none]) := id rfl
def b_Base_init : DS := sSeq (sInitC 0 d_Titled_init (aCons (eVar 1) (aNil))) (sFld 0 "is_shared" (eVar 2))
def d_Base_init : D → List D → R (D × D) := initP 3 3 b_Base_init
theorem e_Base_init (s x0 x1 : D) : d_Base_init s [x0, x1] = finI (b_Base_init [some (.slf s), some (.val x0), some (.val x1)]) := id rfl
def b_law_parts : DS := sSeq (sSet 3 (eCall d_law_row (aCons (eVar 0) (aCons (eVar 1) (aCons (e2 oAdd (eLst (aCons (eC (.int 9)) (aCons (eC (.int 5)) (aCons (eC (.int 9)) (aCons (eC (.int 9)) (aCons (eC (.int 8)) (aCons (eC (.int 5)) (aCons (eC (.int 9)) (aNil))))))))) (e2 oMul (eLst (aCons (eC (.int 13)) (aNil))) (eC (.int 8)))) (aNil)))))) (sSeq (sSet 4 (eLst (aCons (eC (.str "")) (aCons (e2 oAdd (eC (.str "1")) (e2 oIx (eVar 2) (eC (.int 0)))) (aCons (e2 oAdd (e2 oIx (eVar 2) (eC (.int 1))) (eC (.str "_"))) (aCons (eC (.str "abcdefghi")) (aCons (e2 oAdd (e2 oIx (eVar 2) (eC (.int 2))) (eC (.str " "))) (aNil)))))))) (sSeq (sSet 5 (e2 oIx (eVar 3) (eC (.int 0)))) (sSeq (sOwn 6 (eComp (iRange (eVar 5)) [7] (gVar 7) (tYesD) (e2 oIx (eVar 2) (eVar 7)))) (sSeq (sIf (tAndD (tVal (e2 oIn (e2 oIx (eVar 3) (eC (.int 1))) (eTup (aCons (eC (.int 1)) (aCons (eC (.int 3)) (aNil)))))) (tVal (e2 oGt (eVar 5) (eC (.int 0))))) (sPutL 6 (e2 oMod (e2 oIx (eVar 3) (eC (.int 2))) (eVar 5)) (e2 oIx (eVar 4) (e2 oIx (eVar 3) (eC (.int 5))))) (sNext)) (sSeq (sIf (tAndD (tVal (e2 oIn (e2 oIx (eVar 3) (eC (.int 1))) (eTup (aCons (eC (.int 2)) (aCons (eC (.int 3)) (aNil)))))) (tVal (e2 oGt (eVar 5) (eC (.int 0))))) (sPutL 6 (e2 oMod (e2 oIx (eVar 3) (eC (.int 3))) (eVar 5)) (e2 oIx (eVar 2) (e2 oIx (eVar 3) (eC (.int 4))))) (sNext)) (sSeq (sIf (tVal (e2 oEq (e2 oIx (eVar 3) (eC (.int 1))) (eC (.int 4)))) (sOwn 6 (eComp (iRange (eVar 5)) [7] (gVar 7) (tYesD) (e2 oIx (e2 oAdd (eVar 2) (eVar 4)) (e2 oIx (eVar 3) (e2 oAdd (eC (.int 7)) (eVar 7)))))) (sNext)) (sFrz [6] (sRet (eLst (aCons (eVar 6) (aCons (e2 oMod (e2 oIx (eVar 3) (eC (.int 6))) (e2 oAdd (eVar 5) (eC (.int 1)))) (aNil))))))))))))
def d_law_parts : List D → R D := defD 8 3 b_law_parts
theorem e_law_parts (x0 x1 x2 : D) : d_law_parts [x0, x1, x2] = finD (b_law_parts [some (.val x0), some (.val x1), some (.val x2), none, none, none, none, none]) := id rfl
def b_law_is_word : DS := sSeq (sSet 1 (eC (.str "ABCDEFGHIJKLMNOPQRSTUVWXYZabcdefghijklmnopqrstuvwxyz"))) (sSeq (sIf (tOrD (tVal (e2 oEq (eVar 0) (eC (.str "")))) (tOrD (tVal (e2 oGt (e1 oLen (eVar 0)) (eC (.int 8)))) (tVal (e2 oNotIn (e2 oIx (eVar 0) (eC (.int 0))) (eVar 1))))) (sRet (eC (.bl false))) (sNext)) (sRet (e1 oAll (eComp (iOf (eVar 0)) [2] (gVar 2) (tYesD) (e2 oIn (eVar 2) (e2 oAdd (eVar 1) (eC (.str "0123456789"))))))))
def d_law_is_word : List D → R D := defD 3 1 b_law_is_word
theorem e_law_is_word (x0 : D) : d_law_is_word [x0] = finD (b_law_is_word [some (.val x0), none, none]) := id rfl
end Tw

namespace Tw
open PySem
def b_law_due_1 : DS := sSeq (sIf (tNotD (tTru (eCall d_law_is_word (aCons (eVar 4) (aNil))))) (sRet (eTup (aCons (eC (.str "bad")) (aCons (eVar 4) (aNil))))) (sNext)) (sSeq (sIf (tVal (e2 oIn (eVar 4) (eLook 3))) (sRet (eTup (aCons (eC (.str "twice")) (aCons (eVar 4) (aNil))))) (sNext)) (sApp 3 (eVar 4)))
def b_law_due_2 : DS := sSeq (sIf (tVal (e2 oIn (e2 oIx (eVar 6) (eC (.int 0))) (eLook 5))) (sRet (eTup (aCons (eC (.str "base")) (aCons (e2 oIx (eVar 6) (eC (.int 0))) (aNil))))) (sNext)) (sApp 5 (e2 oIx (eVar 6) (eC (.int 0))))
def b_law_due : DS := sSeq (sIf (tNotD (tTru (eCall d_law_is_word (aCons (eVar 0) (aNil))))) (sRet (eTup (aCons (eC (.str "bad")) (aCons (eVar 0) (aNil))))) (sNext)) (sSeq (sOwn 3 (eLst (aNil))) (sSeq (sFor (iOf (eVar 1)) (gVar 4) [4] b_law_due_1) (sSeq (sOwn 5 (eLst (aNil))) (sSeq (sFor (iOf (eVar 2)) (gVar 6) [6] b_law_due_2) (sRet (eTup (aCons (eC (.str "fine")) (aCons (eC (.str "")) (aNil)))))))))
def d_law_due : List D → R D := defD 7 3 b_law_due
theorem e_law_due (x0 x1 x2 : D) : d_law_due [x0, x1, x2] = finD (b_law_due [some (.val x0), some (.val x1), some (.val x2), none, none, none, none]) := id rfl
theorem e_Declaring_declares (x0 x1 : D) : d_Declaring_declares [x0, x1] = finD (b_Declaring_declares [some (.val x0), some (.val x1)]) := id rfl
theorem e_Declaring_is_static (x0 x1 : D) : d_Declaring_is_static [x0, x1] = finD (b_Declaring_is_static [some (.val x0), some (.val x1)]) := id rfl
def b_law_shows_1 : DS := sIf (tNotD (tTru (e1 (oIsi "tuple") (eVar 5)))) (sRet (eC (.bl false))) (sNext)
def b_law_shows_2 : DS := sIf (tVal (e2 oNe (eLst (aCons (eMeth ["Draft"] d_Declaring_declares (eVar 0) (aCons (eVar 6) (aNil))) (aCons (eMeth ["Draft"] d_Declaring_is_static (eVar 0) (aCons (eVar 6) (aNil))) (aNil)))) (eLst (aCons (eC (.bl true)) (aCons (e2 oIn (eVar 6) (eVar 3)) (aNil)))))) (sRet (eC (.bl false))) (sNext)
def b_law_shows : DS := sSeq (sIf (tOrD (tVal (e2 oNe (e1 (oFld "title") (eVar 0)) (eVar 1))) (tOrD (tNotD (tTru (e1 (oIsO "Draft" "Titled") (eVar 0)))) (tNotD (tTru (e1 (oIsO "Draft" "Declaring") (eVar 0)))))) (sRet (eC (.bl false))) (sNext)) (sSeq (sFor (iOf (eLst (aCons (e1 (oFld "names") (eVar 0)) (aCons (e1 (oFld "statics") (eVar 0)) (aCons (e1 (oFld "bases") (eVar 0)) (aNil)))))) (gVar 5) [5] b_law_shows_1) (sSeq (sIf (tOrD (tVal (e2 oNe (e1 (oFld "names") (eVar 0)) (e1 oTuple (eVar 2)))) (tVal (e2 oNe (e1 (oFld "statics") (eVar 0)) (e1 oTuple (eVar 3))))) (sRet (eC (.bl false))) (sNext)) (sSeq (sFor (iOf (e2 oAdd (eVar 2) (eVar 3))) (gVar 6) [6] b_law_shows_2) (sSeq (sIf (tNotD (tTru (e1 oAll (eComp (iOf (e1 (oFld "bases") (eVar 0))) [7] (gVar 7) (tYesD) (e1 (oIsi "bool") (e1 (oFld "is_shared") (eVar 7))))))) (sRet (eC (.bl false))) (sNext)) (sRet (e2 oEq (eComp (iOf (e1 (oFld "bases") (eVar 0))) [7] (gVar 7) (tYesD) (eLst (aCons (e1 (oFld "title") (eVar 7)) (aCons (e1 (oFld "is_shared") (eVar 7)) (aNil))))) (eVar 4)))))))
def d_law_shows : List D → R D := defD 8 5 b_law_shows
theorem e_law_shows (x0 x1 x2 x3 x4 : D) : d_law_shows [x0, x1, x2, x3, x4] = finD (b_law_shows [some (.val x0), some (.val x1), some (.val x2), some (.val x3), some (.val x4), none, none, none]) := id rfl
def b_law_asked : DS := treeL 5 (aConsF (e1 oList (eVar 1)) (aConsF (e1 oList (eVar 2)) (aConsF (eComp (iOf (eVar 3)) [10] (gVar 10) (tYesD) (eCall (mkD "Base" d_Base_init) (aCons (e2 oIx (eVar 10) (eC (.int 0))) (aCons (e2 oIx (eVar 10) (eC (.int 1))) (aNil))))) (aNil)))) (consV 5 (tryV 5 ["DuplicateBase", "DuplicateName", "InvalidWord"] (ifV 5 (tTru (eVar 4)) (setX_ 5 6 (eMkK 1 3 "Draft" gDr3 d_Draft_init (aCons (eVar 0) (aNil)) (aCons (e1 oTuple (eVar 1)) (aCons (e1 oTuple (eVar 2)) (aCons (e1 oTuple (e2 oIx (eVar 5) (eC (.int 2)))) (aNil)))))) (setX_ 5 6 (eMkK 1 3 "Draft" gDr3 d_Draft_init (aCons (eVar 0) (aNil)) (aCons (e2 oIx (eVar 5) (eC (.int 0))) (aCons (e2 oIx (eVar 5) (eC (.int 1))) (aCons (e2 oIx (eVar 5) (eC (.int 2))) (aNil))))))) (("InvalidWord", 7, fun e => sRet (eTup (aCons (eC (.str "bad")) (aCons (eXf e "word") (aCons (eAnd (eXi e "HierarchyError") (eNot (eXi e "DuplicateName"))) (aNil)))))) :: ("DuplicateName", 8, fun e => sRet (eTup (aCons (eC (.str "twice")) (aCons (eXf e "name") (aCons (eAnd (eXi e "HierarchyError") (eNot (eXi e "DuplicateBase"))) (aNil)))))) :: ("DuplicateBase", 9, fun e => sRet (eTup (aCons (eC (.str "base")) (aCons (eXf e "title") (aCons (eAnd (eXi e "HierarchyError") (eXi e "ValueError")) (aNil)))))) :: [])) (consV 5 (appAtV 5 (eC (.int 0)) (eC (.str "later"))) (consV 5 (appAtV 5 (eC (.int 1)) (eC (.str "last"))) (consV 5 (appAtV 5 (eC (.int 2)) (eCall (fun xs => mkD "Base" d_Base_init (xs ++ [.bl false])) (aCons (eC (.str "Later")) (aNil)))) (outV 5 (sRet (eTup (aCons (eC (.str "fine")) (aCons (eC (.str "")) (aCons (eCall d_law_shows (aCons (eVar 6) (aCons (eVar 0) (aCons (eVar 1) (aCons (eVar 2) (aCons (eVar 3) (aNil))))))) (aNil)))))))))))
def d_law_asked : List D → R D := defD 11 5 b_law_asked
theorem e_law_asked (x0 x1 x2 x3 x4 : D) : d_law_asked [x0, x1, x2, x3, x4] = finD (b_law_asked [some (.val x0), some (.val x1), some (.val x2), some (.val x3), some (.val x4), none, none, none, none, none, none]) := id rfl
def b_law : DS := sSeq (sSet 1 (eCall d_law_row (aCons (eCall d_law_cell (aCons (eVar 0) (aCons (eC (.int 0)) (aNil)))) (aCons (eC (.int 1)) (aCons (e2 oAdd (e2 oAdd (eLst (aCons (eC (.int 1664)) (aCons (eC (.int 6)) (aCons (eC (.int 7)) (aCons (eC (.int 2)) (aCons (eC (.int 3)) (aNil))))))) (e2 oMul (eLst (aCons (eC (.int 12)) (aNil))) (eC (.int 6)))) (e2 oMul (eLst (aCons (eC (.int 2)) (aNil))) (eC (.int 6)))) (aNil)))))) (sSeq (sSet 2 (eComp (iRange (eC (.int 12))) [10] (gVar 10) (tYesD) (eCall d_law_word (aCons (e2 oIx (eVar 1) (eC (.int 0))) (aCons (eVar 10) (aNil)))))) (sSeq (sSet 3 (e2 oIx (eVar 2) (e2 oIx (eVar 1) (eC (.int 1))))) (sSeq (sIf (tVal (e2 oEq (e2 oIx (eVar 1) (eC (.int 1))) (eC (.int 5)))) (sSet 3 (e2 oIx (eLst (aCons (eC (.str "")) (aCons (eC (.str "7up")) (aCons (eC (.str "a b")) (aCons (eC (.str "Abcdefghi")) (aCons (eC (.str "x_y")) (aNil))))))) (e2 oMod (e2 oIx (eVar 1) (eC (.int 2))) (eC (.int 5))))) (sNext)) (sSeq (sSet 4 (eCall d_law_parts (aCons (eCall d_law_cell (aCons (eVar 0) (aCons (eC (.int 1)) (aNil)))) (aCons (eC (.int 2)) (aCons (eSl (eVar 2) (xNone) (xSome (eC (.int 8)))) (aNil)))))) (sSeq (sSet 5 (eComp (iRange (e2 oIx (eVar 1) (eC (.int 2)))) [10] (gVar 10) (tYesD) (eLst (aCons (e2 oIx (eVar 2) (eVar 10)) (aCons (e2 oEq (e2 oIx (eVar 1) (e2 oAdd (eC (.int 11)) (eVar 10))) (eC (.int 1))) (aNil)))))) (sSeq (sIf (tVal (e2 oEq (e2 oIx (eVar 1) (eC (.int 4))) (eC (.int 0)))) (sSet 5 (eComp (iRange (e2 oIx (eVar 1) (eC (.int 2)))) [10] (gVar 10) (tYesD) (eLst (aCons (e2 oIx (eVar 2) (e2 oIx (eVar 1) (e2 oAdd (eC (.int 5)) (eVar 10)))) (aCons (e2 oEq (e2 oIx (eVar 1) (e2 oAdd (eC (.int 11)) (eVar 10))) (eC (.int 1))) (aNil)))))) (sNext)) (sSeq (sSet 6 (eSl (e2 oIx (eVar 4) (eC (.int 0))) (xNone) (xSome (e2 oIx (eVar 4) (eC (.int 1)))))) (sSeq (sSet 7 (eSl (e2 oIx (eVar 4) (eC (.int 0))) (xSome (e2 oIx (eVar 4) (eC (.int 1)))) (xNone))) (sSeq (sSet 8 (eCall d_law_due (aCons (eVar 3) (aCons (e2 oIx (eVar 4) (eC (.int 0))) (aCons (eVar 5) (aNil)))))) (sSeq (sSet 9 (eCall d_law_asked (aCons (eVar 3) (aCons (eVar 6) (aCons (eVar 7) (aCons (eVar 5) (aCons (e2 oEq (e2 oIx (eVar 1) (eC (.int 3))) (eC (.int 1))) (aNil)))))))) (sSeq (sIf (tVal (e2 oNe (eVar 9) (eTup (aCons (e2 oIx (eVar 8) (eC (.int 0))) (aCons (e2 oIx (eVar 8) (eC (.int 1))) (aCons (eC (.bl true)) (aNil))))))) (sRet (eC (.bl false))) (sNext)) (sRet (eCall d_law_shows (aCons (eCall (fun xs => mkD "Draft" d_Draft_init (xs ++ [.tup [], .tup [], .tup []])) (aCons (e2 oIx (eVar 2) (eC (.int 0))) (aNil))) (aCons (e2 oIx (eVar 2) (eC (.int 0))) (aCons (eLst (aNil)) (aCons (eLst (aNil)) (aCons (eLst (aNil)) (aNil)))))))))))))))))))
def d_law : List D → R D := defD 11 1 b_law
theorem e_law (x0 : D) : d_law [x0] = finD (b_law [some (.val x0), none, none, none, none, none, none, none, none, none, none]) := id rfl
end Tw

set_option maxHeartbeats 2000000
namespace Tw
open PySem PySem.Spec L2
open PyProof.Rows hiding St
structure Fx (K : PySem.W.Frag) (mg : Str → Option Value) : Prop where
  n_ValueError : mg "ValueError" = none
  n_abs : mg "abs" = none
  n_all : mg "all" = none
  n_bool : mg "bool" = none
  n_int : mg "int" = none
  n_isinstance : mg "isinstance" = none
  n_len : mg "len" = none
  n_list : mg "list" = none
  n_range : mg "range" = none
  n_sum : mg "sum" = none
  n_super : mg "super" = none
  n_tuple : mg "tuple" = none
  c_DIGITS : ∃ t, mg "DIGITS" = some (.str "0123456789" t)
  c_LETTERS : ∃ t, mg "LETTERS" = some (.str "ABCDEFGHIJKLMNOPQRSTUVWXYZabcdefghijklmnopqrstuvwxyz" t)
  c_LONGEST : ∃ t, mg "LONGEST" = some (.int 8 t)
  g_Base : mg "Base" = some (.ref (gAd "Base" K))
  g_Declaring : mg "Declaring" = some (.ref (gAd "Declaring" K))
  g_Draft : mg "Draft" = some (.ref (gAd "Draft" K))
  g_DuplicateBase : mg "DuplicateBase" = some (.ref (gAd "DuplicateBase" K))
  g_DuplicateName : mg "DuplicateName" = some (.ref (gAd "DuplicateName" K))
  g_HierarchyError : mg "HierarchyError" = some (.ref (gAd "HierarchyError" K))
  g_InvalidWord : mg "InvalidWord" = some (.ref (gAd "InvalidWord" K))
  g_Titled : mg "Titled" = some (.ref (gAd "Titled" K))
  g__law_asked : mg "_law_asked" = some (.ref (gAd "_law_asked" K))
  g__law_cell : mg "_law_cell" = some (.ref (gAd "_law_cell" K))
  g__law_due : mg "_law_due" = some (.ref (gAd "_law_due" K))
  g__law_is_word : mg "_law_is_word" = some (.ref (gAd "_law_is_word" K))
  g__law_parts : mg "_law_parts" = some (.ref (gAd "_law_parts" K))
  g__law_row : mg "_law_row" = some (.ref (gAd "_law_row" K))
  g__law_shows : mg "_law_shows" = some (.ref (gAd "_law_shows" K))
  g__law_word : mg "_law_word" = some (.ref (gAd "_law_word" K))
  g_law : mg "law" = some (.ref (gAd "law" K))
  cl_Base : Cls K (cmOf K "Base")
  na_Base_title : NoAttr K (cmOf K "Base") "title"
  na_Base_is_shared : NoAttr K (cmOf K "Base") "is_shared"
  cl_Draft : Cls K (cmOf K "Draft")
  na_Draft_title : NoAttr K (cmOf K "Draft") "title"
  na_Draft_names : NoAttr K (cmOf K "Draft") "names"
  na_Draft_statics : NoAttr K (cmOf K "Draft") "statics"
  na_Draft_bases : NoAttr K (cmOf K "Draft") "bases"
  mk_Base : Mk K (cmOf K "Base") (mAd "Base" "__init__" K)
  mk_Draft : Mk K (cmOf K "Draft") (mAd "Draft" "__init__" K)
  me_Draft_declares : Meth K (cmOf K "Draft") "declares" (mAd "Draft" "declares" K)
  me_Draft_is_static : Meth K (cmOf K "Draft") "is_static" (mAd "Draft" "is_static" K)
  eq_Draft_declares : mAd "Draft" "declares" K = mAd "Declaring" "declares" K
  eq_Draft_is_static : mAd "Draft" "is_static" K = mAd "Declaring" "is_static" K
  sm_Titled_is_word : CFn K (cmOf K "Titled") "is_word" (sAd "Titled" "is_word" K)
  pm_Declaring_init : CFn K (cmOf K "Declaring") "__init__" (mAd "Declaring" "__init__" K)
  pm_Titled_init : CFn K (cmOf K "Titled") "__init__" (mAd "Titled" "__init__" K)
  em_Draft_bases : KTup K (kwAd "Draft" "__init__" "bases" K) []
  em_Draft_names : KTup K (kwAd "Draft" "__init__" "names" K) []
  em_Draft_statics : KTup K (kwAd "Draft" "__init__" "statics" K) []
  xcs : XcsOk K ["DuplicateBase", "DuplicateName", "InvalidWord"] ["DuplicateBase", "DuplicateName", "HierarchyError", "InvalidWord", "ValueError"] ["name", "title", "word"]
  io_Draft_Declaring : IoC K "Draft" "Declaring"
  io_Draft_Titled : IoC K "Draft" "Titled"
  d_law_row : ∃ fd, FunD K "_law_row" "_law_row" (defArgs (top 16)) (defBody (top 16)) (defScope (top 16)) [] [] (gAd "_law_row" K) fd
  d_law_cell : ∃ fd, FunD K "_law_cell" "_law_cell" (defArgs (top 15)) (defBody (top 15)) (defScope (top 15)) [] [] (gAd "_law_cell" K) fd
  d_law_word : ∃ fd, FunD K "_law_word" "_law_word" (defArgs (top 17)) (defBody (top 17)) (defScope (top 17)) [] [] (gAd "_law_word" K) fd
  d_law_parts : ∃ fd, FunD K "_law_parts" "_law_parts" (defArgs (top 19)) (defBody (top 19)) (defScope (top 19)) [] [] (gAd "_law_parts" K) fd
  d_law_is_word : ∃ fd, FunD K "_law_is_word" "_law_is_word" (defArgs (top 18)) (defBody (top 18)) (defScope (top 18)) [] [] (gAd "_law_is_word" K) fd
  d_law_due : ∃ fd, FunD K "_law_due" "_law_due" (defArgs (top 20)) (defBody (top 20)) (defScope (top 20)) [] [] (gAd "_law_due" K) fd
  d_Titled_is_word : ∃ fd, FunD K "is_word" "Titled.is_word" (defArgs (L2.inClass (top 10) 1)) (defBody (L2.inClass (top 10) 1)) (defScope (L2.inClass (top 10) 1)) [] [] (sAd "Titled" "is_word" K) fd
  d_Titled_init : ∃ fd, FunD K "__init__" "Titled.__init__" (defArgs (L2.inClass (top 10) 0)) (defBody (L2.inClass (top 10) 0)) (defScope (L2.inClass (top 10) 0)) [] [] (mAd "Titled" "__init__" K) fd
  d_Base_init : ∃ fd, FunD K "__init__" "Base.__init__" (defArgs (L2.inClass (top 11) 0)) (defBody (L2.inClass (top 11) 0)) (defScope (L2.inClass (top 11) 0)) [.bl false] [] (mAd "Base" "__init__" K) fd
  d_Declaring_init : ∃ fd, FunD K "__init__" "Declaring.__init__" (defArgs (L2.inClass (top 12) 0)) (defBody (L2.inClass (top 12) 0)) (defScope (L2.inClass (top 12) 0)) [] [] (mAd "Declaring" "__init__" K) fd
  d_Draft_init : ∃ fd, FunD K "__init__" "Draft.__init__" (defArgs (L2.inClass (top 13) 0)) (defBody (L2.inClass (top 13) 0)) (defScope (L2.inClass (top 13) 0)) [] [("names", .ref (kwAd "Draft" "__init__" "names" K)), ("statics", .ref (kwAd "Draft" "__init__" "statics" K)), ("bases", .ref (kwAd "Draft" "__init__" "bases" K))] (mAd "Draft" "__init__" K) fd
  d_Declaring_declares : ∃ fd, FunD K "declares" "Declaring.declares" (defArgs (L2.inClass (top 12) 1)) (defBody (L2.inClass (top 12) 1)) (defScope (L2.inClass (top 12) 1)) [] [] (mAd "Declaring" "declares" K) fd
  d_Declaring_is_static : ∃ fd, FunD K "is_static" "Declaring.is_static" (defArgs (L2.inClass (top 12) 2)) (defBody (L2.inClass (top 12) 2)) (defScope (L2.inClass (top 12) 2)) [] [] (mAd "Declaring" "is_static" K) fd
  d_law_shows : ∃ fd, FunD K "_law_shows" "_law_shows" (defArgs (top 21)) (defBody (top 21)) (defScope (top 21)) [] [] (gAd "_law_shows" K) fd
  d_law_asked : ∃ fd, FunD K "_law_asked" "_law_asked" (defArgs (top 22)) (defBody (top 22)) (defScope (top 22)) [] [] (gAd "_law_asked" K) fd
  d_law : ∃ fd, FunD K "law" "law" (defArgs (top 23)) (defBody (top 23)) (defScope (top 23)) [] [] (gAd "law" K) fd
  xc_DuplicateBase : XcA PGm K ⟨"DuplicateBase", "__init__", "DuplicateBase.__init__", defArgs (L2.inClass (top 5) 0), defBody (L2.inClass (top 5) 0), defScope (L2.inClass (top 5) 0)⟩
  ox_DuplicateBase : OexC K (He.ga K "DuplicateBase")
  xn_DuplicateBase_title : PySem.W.findIn K (.ref (He.ga K "DuplicateBase")) "title" = some none
  xc_DuplicateName : XcA PGm K ⟨"DuplicateName", "__init__", "DuplicateName.__init__", defArgs (L2.inClass (top 4) 0), defBody (L2.inClass (top 4) 0), defScope (L2.inClass (top 4) 0)⟩
  ox_DuplicateName : OexC K (He.ga K "DuplicateName")
  xn_DuplicateName_name : PySem.W.findIn K (.ref (He.ga K "DuplicateName")) "name" = some none
  xc_InvalidWord : XcA PGm K ⟨"InvalidWord", "__init__", "InvalidWord.__init__", defArgs (L2.inClass (top 3) 0), defBody (L2.inClass (top 3) 0), defScope (L2.inClass (top 3) 0)⟩
  ox_InvalidWord : OexC K (He.ga K "InvalidWord")
  xn_InvalidWord_word : PySem.W.findIn K (.ref (He.ga K "InvalidWord")) "word" = some none
def gg {K : PySem.W.Frag} {mg : Str → Option Value} (F : Fx K mg) : Gc where
  K := K
  cm := cmOf K
  has := fun c => c = "Base" ∨ c = "Draft"
  cls := by
    intro c h
    rcases h with rfl | rfl
    · exact F.cl_Base
    · exact F.cl_Draft
  noat := by
    intro c f h k
    rcases h with rfl | rfl
    · have k : f = "title" ∨ f = "is_shared" := by simpa [fldOf] using k
      rcases k with rfl | rfl
      · exact F.na_Base_title
      · exact F.na_Base_is_shared
    · have k : f = "title" ∨ f = "names" ∨ f = "statics" ∨ f = "bases" := by simpa [fldOf] using k
      rcases k with rfl | rfl | rfl | rfl
      · exact F.na_Draft_title
      · exact F.na_Draft_names
      · exact F.na_Draft_statics
      · exact F.na_Draft_bases
theorem x_DuplicateBase {w : World} {K : PySem.W.Frag} {mg : Str → Option Value} {base : Heap} (F : Fx K mg) : XMk PGm w K mg base (gg F) "DuplicateBase" "DuplicateBase" ["title"] 1 :=
  xmk1 (k := 0) F.xc_DuplicateBase F.ox_DuplicateBase rfl F.g_DuplicateBase (by exact rfl) ⟨rfl, rfl, rfl, by decide +kernel, rfl, by decide +kernel, by decide +kernel, by decide +kernel, by decide +kernel, by decide +kernel⟩ ⟨_, rfl, rfl⟩ (by decide +kernel) F.n_super F.xn_DuplicateBase_title (fun _ _ _ _ _ _ _ us hl => match us, hl with | [_, _], _ => rfl) (by intros; exact rfl) (by decide) (by decide)
theorem x_DuplicateName {w : World} {K : PySem.W.Frag} {mg : Str → Option Value} {base : Heap} (F : Fx K mg) : XMk PGm w K mg base (gg F) "DuplicateName" "DuplicateName" ["name"] 1 :=
  xmk1 (k := 0) F.xc_DuplicateName F.ox_DuplicateName rfl F.g_DuplicateName (by exact rfl) ⟨rfl, rfl, rfl, by decide +kernel, rfl, by decide +kernel, by decide +kernel, by decide +kernel, by decide +kernel, by decide +kernel⟩ ⟨_, rfl, rfl⟩ (by decide +kernel) F.n_super F.xn_DuplicateName_name (fun _ _ _ _ _ _ _ us hl => match us, hl with | [_, _], _ => rfl) (by intros; exact rfl) (by decide) (by decide)
theorem x_InvalidWord {w : World} {K : PySem.W.Frag} {mg : Str → Option Value} {base : Heap} (F : Fx K mg) : XMk PGm w K mg base (gg F) "InvalidWord" "InvalidWord" ["word"] 1 :=
  xmk1 (k := 0) F.xc_InvalidWord F.ox_InvalidWord rfl F.g_InvalidWord (by exact rfl) ⟨rfl, rfl, rfl, by decide +kernel, rfl, by decide +kernel, by decide +kernel, by decide +kernel, by decide +kernel, by decide +kernel⟩ ⟨_, rfl, rfl⟩ (by decide +kernel) F.n_super F.xn_InvalidWord_word (fun _ _ _ _ _ _ _ us hl => match us, hl with | [_, _], _ => rfl) (by intros; exact rfl) (by decide) (by decide)
theorem sc_law_row : FnScope ["_law_cell_here", "_law_seed", "_law_limits", "_law_row_here", "_law_rest", "_law_limit", "_law_k", "_law_mixed"] ["_law_cell_here", "_law_seed", "_law_limits"] (defScope (top 16)) := ⟨rfl, rfl, rfl, by decide +kernel, rfl, by decide +kernel, by decide +kernel⟩
theorem f_law_row {w : World} {K : PySem.W.Frag} {mg : Str → Option Value} {base : Heap} (F : Fx K mg) : PySem.W.keepIn K (.ref (gAd "_law_row" K)) = true ∧ FnOk PGm w K mg base (L2.CX PGm w) 1 (gAd "_law_row" K) F.d_law_row.choose ["_law_cell_here", "_law_seed", "_law_limits"] (dsp (gg F) d_law_row) ∧ Binds K F.d_law_row.choose ["_law_cell_here", "_law_seed", "_law_limits"] [] := by
  have FD := F.d_law_row.choose_spec
  refine ⟨FD.kp, fn_dsp FD rfl sc_law_row (Nat.le_of_ble_eq_true rfl) (k := 0) (b := b_law_row) (N := ["_law_cell_here", "_law_seed", "_law_limits", "_law_row_here", "_law_rest", "_law_limit", "_law_k", "_law_mixed"]) (fun cdv A outer s H E Ze => ?_), FD.bindsN fun _ _ _ _ _ _ us hl => match us, hl with | [_, _, _], _ => rfl⟩
  exact dss_cons (ds_own (i := 3) (by exact rfl) (by exact Nat.le_of_ble_eq_true rfl) (by exact Or.inl rfl) (pf_lst (da_nil))) (dss_cons (ds_set (i := 4) (by exact rfl) (by exact Nat.le_of_ble_eq_true rfl) (by exact Or.inl rfl) (pd_abs (by exact rfl) F.n_abs ((pd_int' (by exact rfl) F.n_int ((pd_var 0).w)).w))) (dss_cons (ds_if (pt_ge ((pd_var 4).w) ((pd_pow ((pd_int).w) ((pd_int).w)).w)) (dss_cons (ds_for (di_of (pd_var 2)) (dg_name (i := 5) (by exact rfl) (by exact Nat.le_of_ble_eq_true rfl) (by exact Or.inl rfl)) (dss_cons (ds_append (i := 3) (by exact rfl) (pd_mod ((pd_int' (by exact rfl) F.n_int ((pd_var 4).w)).w) ((pd_var 5).w))) (dss_one (ds_set (i := 4) (by exact rfl) (by exact Nat.le_of_ble_eq_true rfl) (by exact Or.inl rfl) (pd_fdiv ((pd_int' (by exact rfl) F.n_int ((pd_var 4).w)).w) ((pd_var 5).w)))))) (dss_one (ds_frz [3] (ds_ret (pd_var 3))))) (dss_nil)) (dss_cons (ds_for (di_range (by exact rfl) F.n_range (pd_len (by exact rfl) F.n_len ((pd_var 2).w))) (dg_name (i := 6) (by exact rfl) (by exact Nat.le_of_ble_eq_true rfl) (by exact Or.inl rfl)) (dss_cons (ds_set (i := 7) (by exact rfl) (by exact Nat.le_of_ble_eq_true rfl) (by exact Or.inl rfl) (pd_mod ((pd_int' (by exact rfl) F.n_int ((pd_add ((pd_add ((pd_add ((pd_mul ((pd_var 4).w) ((pd_int).w)).w) ((pd_mul ((pd_var 1).w) ((pd_int).w)).w)).w) ((pd_mul ((pd_var 6).w) ((pd_int).w)).w)).w) ((pd_int).w)).w)).w) ((pd_int).w))) (dss_cons (ds_set (i := 7) (by exact rfl) (by exact Nat.le_of_ble_eq_true rfl) (by exact Or.inl rfl) (pd_mod ((pd_int' (by exact rfl) F.n_int ((pd_add ((pd_add ((pd_mul ((pd_var 7).w) ((pd_add ((pd_fdiv ((pd_var 7).w) ((pd_int).w)).w) ((pd_int).w)).w)).w) ((pd_var 4).w)).w) ((pd_var 6).w)).w)).w) ((pd_int).w))) (dss_one (ds_append (i := 3) (by exact rfl) (pd_mod ((pd_int' (by exact rfl) F.n_int ((pd_fdiv ((pd_var 7).w) ((pd_int).w)).w)).w) ((pd_ix ((pd_var 2).w) ((pd_var 6).w)).w))))))) (dss_one (ds_frz [3] (ds_ret (pd_var 3)))))))
theorem k_law_row {w : World} {K : PySem.W.Frag} {mg : Str → Option Value} {base : Heap} (F : Fx K mg) : Fk PGm w K mg base (gg F) "_law_row" d_law_row 1 := ⟨_, _, _, (f_law_row (w := w) (base := base) F).2.1, F.g__law_row, (f_law_row (w := w) (base := base) F).1, (f_law_row (w := w) (base := base) F).2.2⟩
theorem sc_law_cell : FnScope ["_law_script", "_law_k"] ["_law_script", "_law_k"] (defScope (top 15)) := ⟨rfl, rfl, rfl, by decide +kernel, rfl, by decide +kernel, by decide +kernel⟩
theorem f_law_cell {w : World} {K : PySem.W.Frag} {mg : Str → Option Value} {base : Heap} (F : Fx K mg) : PySem.W.keepIn K (.ref (gAd "_law_cell" K)) = true ∧ FnOk PGm w K mg base (L2.CX PGm w) 1 (gAd "_law_cell" K) F.d_law_cell.choose ["_law_script", "_law_k"] (dsp (gg F) d_law_cell) ∧ Binds K F.d_law_cell.choose ["_law_script", "_law_k"] [] := by
  have FD := F.d_law_cell.choose_spec
  refine ⟨FD.kp, fn_dsp FD rfl sc_law_cell (Nat.le_of_ble_eq_true rfl) (k := 0) (b := b_law_cell) (N := ["_law_script", "_law_k"]) (fun cdv A outer s H E Ze => ?_), FD.bindsN fun _ _ _ _ _ _ us hl => match us, hl with | [_, _], _ => rfl⟩
  exact dss_cons (ds_if (pt_lt ((pd_var 1).w) ((pd_len (by exact rfl) F.n_len ((pd_var 0).w)).w)) (dss_one (ds_ret (pd_int' (by exact rfl) F.n_int ((pd_ix ((pd_var 0).w) ((pd_var 1).w)).w)))) (dss_nil)) (dss_one (ds_ret (pd_mod ((pd_int' (by exact rfl) F.n_int ((pd_add ((pd_add ((pd_mul ((pd_sum (by exact rfl) F.n_sum ((pd_var 0).w)).w) ((pd_int).w)).w) ((pd_mul ((pd_var 1).w) ((pd_int).w)).w)).w) ((pd_len (by exact rfl) F.n_len ((pd_var 0).w)).w)).w)).w) ((pd_int).w))))
theorem k_law_cell {w : World} {K : PySem.W.Frag} {mg : Str → Option Value} {base : Heap} (F : Fx K mg) : Fk PGm w K mg base (gg F) "_law_cell" d_law_cell 1 := ⟨_, _, _, (f_law_cell (w := w) (base := base) F).2.1, F.g__law_cell, (f_law_cell (w := w) (base := base) F).1, (f_law_cell (w := w) (base := base) F).2.2⟩
theorem sc_law_word : FnScope ["_law_style", "_law_k", "_law_letters", "_law_front", "_law_back"] ["_law_style", "_law_k"] (defScope (top 17)) := ⟨rfl, rfl, rfl, by decide +kernel, rfl, by decide +kernel, by decide +kernel⟩
theorem f_law_word {w : World} {K : PySem.W.Frag} {mg : Str → Option Value} {base : Heap} (F : Fx K mg) : PySem.W.keepIn K (.ref (gAd "_law_word" K)) = true ∧ FnOk PGm w K mg base (L2.CX PGm w) 1 (gAd "_law_word" K) F.d_law_word.choose ["_law_style", "_law_k"] (dsp (gg F) d_law_word) ∧ Binds K F.d_law_word.choose ["_law_style", "_law_k"] [] := by
  have FD := F.d_law_word.choose_spec
  refine ⟨FD.kp, fn_dsp FD rfl sc_law_word (Nat.le_of_ble_eq_true rfl) (k := 0) (b := b_law_word) (N := ["_law_style", "_law_k", "_law_letters", "_law_front", "_law_back"]) (fun cdv A outer s H E Ze => ?_), FD.bindsN fun _ _ _ _ _ _ us hl => match us, hl with | [_, _], _ => rfl⟩
  exact dss_cons (ds_set (i := 2) (by exact rfl) (by exact Nat.le_of_ble_eq_true rfl) (by exact Or.inl rfl) (pd_str)) (dss_cons (ds_set (i := 3) (by exact rfl) (by exact Nat.le_of_ble_eq_true rfl) (by exact Or.inl rfl) (pd_ix ((pd_lst (da_cons (pd_str) (da_cons (pd_str) (da_cons (pd_str) (da_cons (pd_str) (da_nil)))))).w) ((pd_mod ((pd_int' (by exact rfl) F.n_int ((pd_var 0).w)).w) ((pd_int).w)).w))) (dss_cons (ds_set (i := 4) (by exact rfl) (by exact Nat.le_of_ble_eq_true rfl) (by exact Or.inl rfl) (pd_ix ((pd_lst (da_cons (pd_str) (da_cons (pd_str) (da_cons (pd_str) (da_cons (pd_str) (da_nil)))))).w) ((pd_mod ((pd_fdiv ((pd_int' (by exact rfl) F.n_int ((pd_var 0).w)).w) ((pd_int).w)).w) ((pd_int).w)).w))) (dss_cons (ds_if (pt_eq ((pd_mod ((pd_fdiv ((pd_int' (by exact rfl) F.n_int ((pd_var 0).w)).w) ((pd_int).w)).w) ((pd_int).w)).w) ((pd_int).w)) (dss_one (ds_set (i := 4) (by exact rfl) (by exact Nat.le_of_ble_eq_true rfl) (by exact Or.inl rfl) (pd_add ((pd_var 4).w) ((pd_mul ((pd_str).w) ((pd_int' (by exact rfl) F.n_int ((pd_mod ((pd_int' (by exact rfl) F.n_int ((pd_var 1).w)).w) ((pd_int).w)).w)).w)).w)))) (dss_nil)) (dss_cons (ds_if (pt_ge ((pd_var 1).w) ((pd_int).w)) (dss_one (ds_set (i := 4) (by exact rfl) (by exact Nat.le_of_ble_eq_true rfl) (by exact Or.inl rfl) (pd_add ((pd_str).w) ((pd_var 4).w)))) (dss_nil)) (dss_one (ds_ret (pd_add ((pd_add ((pd_var 3).w) ((pd_ix ((pd_var 2).w) ((pd_mod ((pd_int' (by exact rfl) F.n_int ((pd_add ((pd_mul ((pd_var 1).w) ((pd_int).w)).w) ((pd_fdiv ((pd_int' (by exact rfl) F.n_int ((pd_var 0).w)).w) ((pd_int).w)).w)).w)).w) ((pd_int).w)).w)).w)).w) ((pd_var 4).w))))))))
theorem k_law_word {w : World} {K : PySem.W.Frag} {mg : Str → Option Value} {base : Heap} (F : Fx K mg) : Fk PGm w K mg base (gg F) "_law_word" d_law_word 1 := ⟨_, _, _, (f_law_word (w := w) (base := base) F).2.1, F.g__law_word, (f_law_word (w := w) (base := base) F).1, (f_law_word (w := w) (base := base) F).2.2⟩
theorem sc_law_parts : FnScope ["_law_cell_here", "_law_seed", "_law_words", "_law_draws", "_law_bad", "_law_size", "_law_parts_here", "_law_k"] ["_law_cell_here", "_law_seed", "_law_words"] (defScope (top 19)) := ⟨rfl, rfl, rfl, by decide +kernel, rfl, by decide +kernel, by decide +kernel⟩
theorem f_law_parts {w : World} {K : PySem.W.Frag} {mg : Str → Option Value} {base : Heap} (F : Fx K mg) : PySem.W.keepIn K (.ref (gAd "_law_parts" K)) = true ∧ FnOk PGm w K mg base (L2.CX PGm w) 2 (gAd "_law_parts" K) F.d_law_parts.choose ["_law_cell_here", "_law_seed", "_law_words"] (dsp (gg F) d_law_parts) ∧ Binds K F.d_law_parts.choose ["_law_cell_here", "_law_seed", "_law_words"] [] := by
  have FD := F.d_law_parts.choose_spec
  refine ⟨FD.kp, fn_dsp FD rfl sc_law_parts (Nat.le_of_ble_eq_true rfl) (k := 1) (b := b_law_parts) (N := ["_law_cell_here", "_law_seed", "_law_words", "_law_draws", "_law_bad", "_law_size", "_law_parts_here", "_law_k"]) (fun cdv A outer s H E Ze => ?_), FD.bindsN fun _ _ _ _ _ _ us hl => match us, hl with | [_, _, _], _ => rfl⟩
  exact dss_cons (ds_set (i := 3) (by exact rfl) (by exact Nat.le_of_ble_eq_true rfl) (by exact Or.inr rfl) (pd_call (k_law_row (w := w) (base := base) F) (by exact Nat.le_of_ble_eq_true rfl) (by exact rfl) (da_cons (pd_var 0) (da_cons (pd_var 1) (da_cons (pd_add ((pd_lst (da_cons (pd_int) (da_cons (pd_int) (da_cons (pd_int) (da_cons (pd_int) (da_cons (pd_int) (da_cons (pd_int) (da_cons (pd_int) (da_nil))))))))).w) ((pd_mul ((pd_lst (da_cons (pd_int) (da_nil))).w) ((pd_int).w)).w)) (da_nil)))))) (dss_cons (ds_set (i := 4) (by exact rfl) (by exact Nat.le_of_ble_eq_true rfl) (by exact Or.inr rfl) (pd_lst (da_cons (pd_str) (da_cons (pd_add ((pd_str).w) ((pd_ix ((pd_var 2).w) ((pd_int).w)).w)) (da_cons (pd_add ((pd_ix ((pd_var 2).w) ((pd_int).w)).w) ((pd_str).w)) (da_cons (pd_str) (da_cons (pd_add ((pd_ix ((pd_var 2).w) ((pd_int).w)).w) ((pd_str).w)) (da_nil)))))))) (dss_cons (ds_set (i := 5) (by exact rfl) (by exact Nat.le_of_ble_eq_true rfl) (by exact Or.inl rfl) (pd_ix ((pd_var 3).w) ((pd_int).w))) (dss_cons (ds_compO (i := 6) (by exact rfl) (by exact Nat.le_of_ble_eq_true rfl) (by exact rfl) (by exact sw_true rfl rfl rfl (by decide +kernel)) (own := [("_law_k", 7)]) (is := [7]) (PDI.w (di_range (by exact rfl) F.n_range (pd_var 5))) (blkOk_by (by show blkC ["_law_cell_here", "_law_seed", "_law_words", "_law_draws", "_law_bad", "_law_size", "_law_parts_here", "_law_k"] (defScope (top 19)) _ _ = true; decide +kernel)) (by decide) (fun _ _ _ _ _ _ => dg_name (i := 7) (by exact rfl) (by exact Nat.le_of_ble_eq_true rfl) (by exact Or.inl rfl)) (fun _ _ _ _ _ _ => dts_nil) (fun _ _ _ _ _ _ => pd_ix ((pd_var 2).w) ((pd_var 7).w))) (dss_cons (ds_if (pt_bo (pw_and' (pt_in ((pd_ix ((pd_var 3).w) ((pd_int).w)).w) ((pd_tup (da_cons (pd_int) (da_cons (pd_int) (da_nil)))).w)) (pw_and1' (pt_gt ((pd_var 5).w) ((pd_int).w))))) (dss_one (ds_lput (i := 6) (by exact rfl) ((pd_mod ((pd_ix ((pd_var 3).w) ((pd_int).w)).w) ((pd_var 5).w)).w) (pd_ix ((pd_var 4).w) ((pd_ix ((pd_var 3).w) ((pd_int).w)).w)))) (dss_nil)) (dss_cons (ds_if (pt_bo (pw_and' (pt_in ((pd_ix ((pd_var 3).w) ((pd_int).w)).w) ((pd_tup (da_cons (pd_int) (da_cons (pd_int) (da_nil)))).w)) (pw_and1' (pt_gt ((pd_var 5).w) ((pd_int).w))))) (dss_one (ds_lput (i := 6) (by exact rfl) ((pd_mod ((pd_ix ((pd_var 3).w) ((pd_int).w)).w) ((pd_var 5).w)).w) (pd_ix ((pd_var 2).w) ((pd_ix ((pd_var 3).w) ((pd_int).w)).w)))) (dss_nil)) (dss_cons (ds_if (pt_eq ((pd_ix ((pd_var 3).w) ((pd_int).w)).w) ((pd_int).w)) (dss_one (ds_compO (i := 6) (by exact rfl) (by exact Nat.le_of_ble_eq_true rfl) (by exact rfl) (by exact sw_true rfl rfl rfl (by decide +kernel)) (own := [("_law_k", 7)]) (is := [7]) (PDI.w (di_range (by exact rfl) F.n_range (pd_var 5))) (blkOk_by (by show blkC ["_law_cell_here", "_law_seed", "_law_words", "_law_draws", "_law_bad", "_law_size", "_law_parts_here", "_law_k"] (defScope (top 19)) _ _ = true; decide +kernel)) (by decide) (fun _ _ _ _ _ _ => dg_name (i := 7) (by exact rfl) (by exact Nat.le_of_ble_eq_true rfl) (by exact Or.inl rfl)) (fun _ _ _ _ _ _ => dts_nil) (fun _ _ _ _ _ _ => pd_ix ((pd_add ((pd_var 2).w) ((pd_var 4).w)).w) ((pd_ix ((pd_var 3).w) ((pd_add ((pd_int).w) ((pd_var 7).w)).w)).w)))) (dss_nil)) (dss_one (ds_frz [6] (ds_ret (pd_lst (da_cons (pd_var 6) (da_cons (pd_mod ((pd_ix ((pd_var 3).w) ((pd_int).w)).w) ((pd_add ((pd_var 5).w) ((pd_int).w)).w)) (da_nil)))))))))))))
theorem k_law_parts {w : World} {K : PySem.W.Frag} {mg : Str → Option Value} {base : Heap} (F : Fx K mg) : Fk PGm w K mg base (gg F) "_law_parts" d_law_parts 2 := ⟨_, _, _, (f_law_parts (w := w) (base := base) F).2.1, F.g__law_parts, (f_law_parts (w := w) (base := base) F).1, (f_law_parts (w := w) (base := base) F).2.2⟩
theorem sc_law_is_word : FnScope ["_law_text", "_law_letters", "_law_char"] ["_law_text"] (defScope (top 18)) := ⟨rfl, rfl, rfl, by decide +kernel, rfl, by decide +kernel, by decide +kernel⟩
theorem f_law_is_word {w : World} {K : PySem.W.Frag} {mg : Str → Option Value} {base : Heap} (F : Fx K mg) : PySem.W.keepIn K (.ref (gAd "_law_is_word" K)) = true ∧ FnOk PGm w K mg base (L2.CX PGm w) 1 (gAd "_law_is_word" K) F.d_law_is_word.choose ["_law_text"] (dsp (gg F) d_law_is_word) ∧ Binds K F.d_law_is_word.choose ["_law_text"] [] := by
  have FD := F.d_law_is_word.choose_spec
  refine ⟨FD.kp, fn_dsp FD rfl sc_law_is_word (Nat.le_of_ble_eq_true rfl) (k := 0) (b := b_law_is_word) (N := ["_law_text", "_law_letters", "_law_char"]) (fun cdv A outer s H E Ze => ?_), FD.bindsN fun _ _ _ _ _ _ us hl => match us, hl with | [_], _ => rfl⟩
  exact dss_cons (ds_set (i := 1) (by exact rfl) (by exact Nat.le_of_ble_eq_true rfl) (by exact Or.inr rfl) (pd_str)) (dss_cons (ds_if (pt_bo (pw_or' (pt_eq ((pd_var 0).w) ((pd_str).w)) (pw_or' (pt_gt ((pd_len (by exact rfl) F.n_len ((pd_var 0).w)).w) ((pd_int).w)) (pw_or1' (pt_notin ((pd_ix ((pd_var 0).w) ((pd_int).w)).w) ((pd_var 1).w)))))) (dss_one (ds_ret (pd_bl))) (dss_nil)) (dss_one (ds_ret (pd_all (by exact rfl) F.n_all ((pd_comp (own := [("_law_char", 2)]) (is := [2]) (PDI.w (di_of (pd_var 0))) (blkOk_by (by show blkC ["_law_text", "_law_letters", "_law_char"] (defScope (top 18)) _ _ = true; decide +kernel)) (by decide) (fun _ _ _ _ _ _ => dg_name (i := 2) (by exact rfl) (by exact Nat.le_of_ble_eq_true rfl) (by exact Or.inl rfl)) (fun _ _ _ _ _ _ => dts_nil) (fun _ _ _ _ _ _ => pd_in ((pd_var 2).w) ((pd_add ((pd_var 1).w) ((pd_str).w)).w))).w)))))
theorem k_law_is_word {w : World} {K : PySem.W.Frag} {mg : Str → Option Value} {base : Heap} (F : Fx K mg) : Fk PGm w K mg base (gg F) "_law_is_word" d_law_is_word 1 := ⟨_, _, _, (f_law_is_word (w := w) (base := base) F).2.1, F.g__law_is_word, (f_law_is_word (w := w) (base := base) F).1, (f_law_is_word (w := w) (base := base) F).2.2⟩
theorem sc_law_due : FnScope ["_law_head", "_law_parts_here", "_law_links", "_law_seen", "_law_part", "_law_held", "_law_link"] ["_law_head", "_law_parts_here", "_law_links"] (defScope (top 20)) := ⟨rfl, rfl, rfl, by decide +kernel, rfl, by decide +kernel, by decide +kernel⟩
theorem f_law_due {w : World} {K : PySem.W.Frag} {mg : Str → Option Value} {base : Heap} (F : Fx K mg) : PySem.W.keepIn K (.ref (gAd "_law_due" K)) = true ∧ FnOk PGm w K mg base (L2.CX PGm w) 2 (gAd "_law_due" K) F.d_law_due.choose ["_law_head", "_law_parts_here", "_law_links"] (dsp (gg F) d_law_due) ∧ Binds K F.d_law_due.choose ["_law_head", "_law_parts_here", "_law_links"] [] := by
  have FD := F.d_law_due.choose_spec
  refine ⟨FD.kp, fn_dsp FD rfl sc_law_due (Nat.le_of_ble_eq_true rfl) (k := 1) (b := b_law_due) (N := ["_law_head", "_law_parts_here", "_law_links", "_law_seen", "_law_part", "_law_held", "_law_link"]) (fun cdv A outer s H E Ze => ?_), FD.bindsN fun _ _ _ _ _ _ us hl => match us, hl with | [_, _, _], _ => rfl⟩
  exact dss_cons (ds_if (pt_not' (pt_tru ((pd_call (k_law_is_word (w := w) (base := base) F) (by exact Nat.le_of_ble_eq_true rfl) (by exact rfl) (da_cons (pd_var 0) (da_nil))).w))) (dss_one (ds_ret (pd_tup (da_cons (pd_str) (da_cons (pd_var 0) (da_nil)))))) (dss_nil)) (dss_cons (ds_own (i := 3) (by exact rfl) (by exact Nat.le_of_ble_eq_true rfl) (by exact Or.inl rfl) (pf_lst (da_nil))) (dss_cons (ds_for (di_of (pd_var 1)) (dg_name (i := 4) (by exact rfl) (by exact Nat.le_of_ble_eq_true rfl) (by exact Or.inl rfl)) (dss_cons (ds_if (pt_not' (pt_tru ((pd_call (k_law_is_word (w := w) (base := base) F) (by exact Nat.le_of_ble_eq_true rfl) (by exact rfl) (da_cons (pd_var 4) (da_nil))).w))) (dss_one (ds_ret (pd_tup (da_cons (pd_str) (da_cons (pd_var 4) (da_nil)))))) (dss_nil)) (dss_cons (ds_if (pt_in ((pd_var 4).w) (pd_look 3)) (dss_one (ds_ret (pd_tup (da_cons (pd_str) (da_cons (pd_var 4) (da_nil)))))) (dss_nil)) (dss_one (ds_append (i := 3) (by exact rfl) (pd_var 4)))))) (dss_cons (ds_own (i := 5) (by exact rfl) (by exact Nat.le_of_ble_eq_true rfl) (by exact Or.inl rfl) (pf_lst (da_nil))) (dss_cons (ds_for (di_of (pd_var 2)) (dg_name (i := 6) (by exact rfl) (by exact Nat.le_of_ble_eq_true rfl) (by exact Or.inl rfl)) (dss_cons (ds_if (pt_in ((pd_ix ((pd_var 6).w) ((pd_int).w)).w) (pd_look 5)) (dss_one (ds_ret (pd_tup (da_cons (pd_str) (da_cons (pd_ix ((pd_var 6).w) ((pd_int).w)) (da_nil)))))) (dss_nil)) (dss_one (ds_append (i := 5) (by exact rfl) (pd_ix ((pd_var 6).w) ((pd_int).w)))))) (dss_one (ds_ret (pd_tup (da_cons (pd_str) (da_cons (pd_str) (da_nil))))))))))
theorem k_law_due {w : World} {K : PySem.W.Frag} {mg : Str → Option Value} {base : Heap} (F : Fx K mg) : Fk PGm w K mg base (gg F) "_law_due" d_law_due 2 := ⟨_, _, _, (f_law_due (w := w) (base := base) F).2.1, F.g__law_due, (f_law_due (w := w) (base := base) F).1, (f_law_due (w := w) (base := base) F).2.2⟩
theorem sc_Titled_is_word : FnScope ["text", "char"] ["text"] (defScope (L2.inClass (top 10) 1)) := ⟨rfl, rfl, rfl, by decide +kernel, rfl, by decide +kernel, by decide +kernel⟩
theorem f_Titled_is_word {w : World} {K : PySem.W.Frag} {mg : Str → Option Value} {base : Heap} (F : Fx K mg) : PySem.W.keepIn K (.ref (sAd "Titled" "is_word" K)) = true ∧ FnOk PGm w K mg base (L2.CX PGm w) 1 (sAd "Titled" "is_word" K) F.d_Titled_is_word.choose ["text"] (dsp (gg F) d_Titled_is_word) ∧ Binds K F.d_Titled_is_word.choose ["text"] [] := by
  have FD := F.d_Titled_is_word.choose_spec
  refine ⟨FD.kp, fn_dsp FD rfl sc_Titled_is_word (Nat.le_of_ble_eq_true rfl) (k := 0) (b := b_Titled_is_word) (N := ["text", "char"]) (fun cdv A outer s H E Ze => ?_), FD.bindsN fun _ _ _ _ _ _ us hl => match us, hl with | [_], _ => rfl⟩
  exact dss_cons (ds_if (pt_bo (pw_or' (pt_lt ((pd_len (by exact rfl) F.n_len ((pd_var 0).w)).w) ((pd_int).w)) (pw_or' (pt_gt ((pd_len (by exact rfl) F.n_len ((pd_var 0).w)).w) ((pd_gint (by exact rfl) F.c_LONGEST).w)) (pw_or1' (pt_notin ((pd_ix ((pd_var 0).w) ((pd_int).w)).w) ((pd_gstr (by exact rfl) F.c_LETTERS).w)))))) (dss_one (ds_ret (pd_bl))) (dss_nil)) (dss_cons (ds_for (di_of (pd_var 0)) (dg_name (i := 1) (by exact rfl) (by exact Nat.le_of_ble_eq_true rfl) (by exact Or.inl rfl)) (dss_one (ds_if (pt_bo (pw_and' (pt_notin ((pd_var 1).w) ((pd_gstr (by exact rfl) F.c_LETTERS).w)) (pw_and1' (pt_notin ((pd_var 1).w) ((pd_gstr (by exact rfl) F.c_DIGITS).w))))) (dss_one (ds_ret (pd_bl))) (dss_nil)))) (dss_one (ds_ret (pd_bl))))
theorem sc_Titled_init : FnScope ["self", "title"] ["self", "title"] (defScope (L2.inClass (top 10) 0)) := ⟨rfl, rfl, rfl, by decide +kernel, rfl, by decide +kernel, by decide +kernel⟩
theorem f_Titled_init {w : World} {K : PySem.W.Frag} {mg : Str → Option Value} {base : Heap} (F : Fx K mg) : PySem.W.keepIn K (.ref (mAd "Titled" "__init__" K)) = true ∧ FnOk PGm w K mg base (L2.CX PGm w) 3 (mAd "Titled" "__init__" K) F.d_Titled_init.choose ["self", "title"] (dspM (gg F) d_Titled_init) ∧ Binds K F.d_Titled_init.choose ["self", "title"] [] := by
  have FD := F.d_Titled_init.choose_spec
  refine ⟨FD.kp, fn_init FD rfl sc_Titled_init (Nat.le_of_ble_eq_true rfl) (k := 2) (b := b_Titled_init) (N := ["self", "title"]) (fun cdv A outer s H E Ze sa => ?_), FD.bindsN fun _ _ _ _ _ _ us hl => match us, hl with | [_, _], _ => rfl⟩
  exact dss_cons (ds_if (pt_not' (pt_tru ((pd_cfn (by exact rfl) F.g_Titled F.sm_Titled_is_word (f_Titled_is_word (w := w) (base := base) F).2.1 (f_Titled_is_word (w := w) (base := base) F).2.2 (by exact Nat.le_of_ble_eq_true rfl) (da_cons (pd_var 1) (da_nil))).w))) (dss_one (ds_raise (x_InvalidWord (w := w) (base := base) F) (by exact Nat.le_of_ble_eq_true rfl) (by exact rfl) (da_cons (pd_var 1) (da_nil)))) (dss_nil)) (dss_one (ds_fld (i := 0) (by exact rfl) (pd_var 1)))
theorem sc_Base_init : FnScope ["self", "title", "is_shared"] ["self", "title", "is_shared"] (defScope (L2.inClass (top 11) 0)) := ⟨rfl, rfl, rfl, by decide +kernel, rfl, by decide +kernel, by decide +kernel⟩
theorem f_Base_init {w : World} {K : PySem.W.Frag} {mg : Str → Option Value} {base : Heap} (F : Fx K mg) : FnOk PGm w K mg base (L2.CX PGm w) 4 (mAd "Base" "__init__" K) F.d_Base_init.choose ["self", "title", "is_shared"] (dspM (gg F) d_Base_init) := by
  have FD := F.d_Base_init.choose_spec
  exact fn_init FD rfl sc_Base_init (Nat.le_of_ble_eq_true rfl) (k := 3) (b := b_Base_init) (N := ["self", "title", "is_shared"]) (fun cdv A outer s H E Ze sa => dss_cons (ds_init (by exact rfl) F.g_Titled F.pm_Titled_init (f_Titled_init (w := w) (base := base) F).2.1 (f_Titled_init (w := w) (base := base) F).2.2 (by exact Nat.le_of_ble_eq_true rfl) (i := 0) (by exact rfl) (da_cons (pd_var 1) (da_nil))) (dss_one (ds_fld (i := 0) (by exact rfl) (pd_var 2))))
theorem c_Base_init {w : World} {K : PySem.W.Frag} {mg : Str → Option Value} {base : Heap} (F : Fx K mg) : Ck PGm w K mg base (gg F) "Base" "Base" d_Base_init 4 := ⟨_, _, _, f_Base_init (w := w) (base := base) F, F.mk_Base, F.g_Base, bindsW F.d_Base_init.choose_spec fun T kV doc pm an cdv ct us its h1 h2 => match us, its, h1, h2 with | [_, _, _], [_], _, _ => ⟨_, rfl, rfl⟩, Or.inl rfl⟩
theorem dd_Base_1 {w : World} {K : PySem.W.Frag} {mg : Str → Option Value} {base : Heap} (F : Fx K mg) : CkD PGm w K mg base (gg F) "Base" "Base" [.bl false] d_Base_init 4 := by
  obtain ⟨ds, hv, hb⟩ := L2.FunD.binds1 (ps := ["self", "title", "is_shared"]) F.d_Base_init.choose_spec 2 0 (by exact fun q => by cases q) (by exact rfl) (fun T kV doc pm an cdv ct us its h1 h2 => match us, its, h1, h2 with | [_, _], [_], _, _ => ⟨_, rfl, rfl⟩)
  exact ⟨_, _, _, _, _, f_Base_init (w := w) (base := base) F, F.mk_Base, F.g_Base, hb, hv, Or.inl rfl, fun Z H => RepL.one rfl⟩
theorem sc_Declaring_init : FnScope ["self", "names", "statics", "given", "word"] ["self", "names", "statics"] (defScope (L2.inClass (top 12) 0)) := ⟨rfl, rfl, rfl, by decide +kernel, rfl, by decide +kernel, by decide +kernel⟩
theorem f_Declaring_init {w : World} {K : PySem.W.Frag} {mg : Str → Option Value} {base : Heap} (F : Fx K mg) : PySem.W.keepIn K (.ref (mAd "Declaring" "__init__" K)) = true ∧ FnOk PGm w K mg base (L2.CX PGm w) 3 (mAd "Declaring" "__init__" K) F.d_Declaring_init.choose ["self", "names", "statics"] (dspM (gg F) d_Declaring_init) ∧ Binds K F.d_Declaring_init.choose ["self", "names", "statics"] [] := by
  have FD := F.d_Declaring_init.choose_spec
  refine ⟨FD.kp, fn_init FD rfl sc_Declaring_init (Nat.le_of_ble_eq_true rfl) (k := 2) (b := b_Declaring_init) (N := ["self", "names", "statics", "given", "word"]) (fun cdv A outer s H E Ze sa => ?_), FD.bindsN fun _ _ _ _ _ _ us hl => match us, hl with | [_, _, _], _ => rfl⟩
  exact dss_cons (ds_own (i := 3) (by exact rfl) (by exact Nat.le_of_ble_eq_true rfl) (by exact Or.inl rfl) (pf_lst (da_nil))) (dss_cons (ds_for (di_of (pd_add ((pd_list (by exact rfl) F.n_list ((pd_var 1).w)).w) ((pd_list (by exact rfl) F.n_list ((pd_var 2).w)).w))) (dg_name (i := 4) (by exact rfl) (by exact Nat.le_of_ble_eq_true rfl) (by exact Or.inl rfl)) (dss_cons (ds_if (pt_not' (pt_tru ((pd_cfn (by exact rfl) F.g_Titled F.sm_Titled_is_word (f_Titled_is_word (w := w) (base := base) F).2.1 (f_Titled_is_word (w := w) (base := base) F).2.2 (by exact Nat.le_of_ble_eq_true rfl) (da_cons (pd_var 4) (da_nil))).w))) (dss_one (ds_raise (x_InvalidWord (w := w) (base := base) F) (by exact Nat.le_of_ble_eq_true rfl) (by exact rfl) (da_cons (pd_var 4) (da_nil)))) (dss_nil)) (dss_cons (ds_if (pt_in ((pd_var 4).w) (pd_look 3)) (dss_one (ds_raise (x_DuplicateName (w := w) (base := base) F) (by exact Nat.le_of_ble_eq_true rfl) (by exact rfl) (da_cons (pd_var 4) (da_nil)))) (dss_nil)) (dss_one (ds_append (i := 3) (by exact rfl) (pd_var 4)))))) (dss_cons (ds_fld (i := 0) (by exact rfl) (pd_tuple (by exact rfl) F.n_tuple ((pd_var 1).w))) (dss_one (ds_fld (i := 0) (by exact rfl) (pd_tuple (by exact rfl) F.n_tuple ((pd_var 2).w))))))
theorem sc_Draft_init : FnScope ["self", "title", "names", "statics", "bases", "given", "base"] ["self", "title", "names", "statics", "bases"] (defScope (L2.inClass (top 13) 0)) := ⟨rfl, rfl, rfl, by decide +kernel, rfl, by decide +kernel, by decide +kernel⟩
theorem f_Draft_init {w : World} {K : PySem.W.Frag} {mg : Str → Option Value} {base : Heap} (F : Fx K mg) : FnOk PGm w K mg base (L2.CX PGm w) 4 (mAd "Draft" "__init__" K) F.d_Draft_init.choose ["self", "title", "names", "statics", "bases"] (dspM (gg F) d_Draft_init) := by
  have FD := F.d_Draft_init.choose_spec
  exact fn_init FD rfl sc_Draft_init (Nat.le_of_ble_eq_true rfl) (k := 3) (b := b_Draft_init) (N := ["self", "title", "names", "statics", "bases", "given", "base"]) (fun cdv A outer s H E Ze sa => dss_cons (ds_init (by exact rfl) F.g_Titled F.pm_Titled_init (f_Titled_init (w := w) (base := base) F).2.1 (f_Titled_init (w := w) (base := base) F).2.2 (by exact Nat.le_of_ble_eq_true rfl) (i := 0) (by exact rfl) (da_cons (pd_var 1) (da_nil))) (dss_cons (ds_init (by exact rfl) F.g_Declaring F.pm_Declaring_init (f_Declaring_init (w := w) (base := base) F).2.1 (f_Declaring_init (w := w) (base := base) F).2.2 (by exact Nat.le_of_ble_eq_true rfl) (i := 0) (by exact rfl) (da_cons (pd_var 2) (da_cons (pd_var 3) (da_nil)))) (dss_cons (ds_own (i := 5) (by exact rfl) (by exact Nat.le_of_ble_eq_true rfl) (by exact Or.inl rfl) (pf_lst (da_nil))) (dss_cons (ds_for (di_of (pd_var 4)) (dg_name (i := 6) (by exact rfl) (by exact Nat.le_of_ble_eq_true rfl) (by exact Or.inl rfl)) (dss_cons (ds_if (pt_in ((pd_fld ((pd_var 6).w)).w) (pd_look 5)) (dss_one (ds_raise (x_DuplicateBase (w := w) (base := base) F) (by exact Nat.le_of_ble_eq_true rfl) (by exact rfl) (da_cons (pd_fld ((pd_var 6).w)) (da_nil)))) (dss_nil)) (dss_one (ds_append (i := 5) (by exact rfl) (pd_fld ((pd_var 6).w)))))) (dss_one (ds_fld (i := 0) (by exact rfl) (pd_tuple (by exact rfl) F.n_tuple ((pd_var 4).w))))))))
theorem kw_Draft_3 {w : World} {K : PySem.W.Frag} {mg : Str → Option Value} {base : Heap} (F : Fx K mg) : CkK PGm w K mg base (gg F) "Draft" "Draft" 1 ["names", "statics", "bases"] gDr3 d_Draft_init 4 := by
  obtain ⟨mv, hk⟩ := L2.FunD.kbinds0 (ps := ["self", "title", "names", "statics", "bases"]) F.d_Draft_init.choose_spec 2 ["names", "statics", "bases"] [] (fun us mv ws => us ++ (ws ++ mv)) (by exact fun q => by cases q) (by exact fun q h => by cases h) (fun r1 r2 r3 => r1.append (r3.append r2)) (fun D doc pm an cdv ct us mv ws h1 h2 h3 => match us, mv, ws, h1, h2, h3 with | [_, _], [], [_, _, _], _, _, _ => rfl)
  exact ⟨_, _, _, _, _, f_Draft_init (w := w) (base := base) F, F.mk_Draft, F.g_Draft, cons0 hk, Or.inr (rfl), fun Z H ds es vs us l1 l2 r1 r2 => r1.append (r2.append (RepL.nil))⟩
theorem dd_Draft_1 {w : World} {K : PySem.W.Frag} {mg : Str → Option Value} {base : Heap} (F : Fx K mg) : CkD PGm w K mg base (gg F) "Draft" "Draft" [.tup [], .tup [], .tup []] d_Draft_init 4 := by
  obtain ⟨ds, hv, hb⟩ := L2.FunD.binds0 (ps := ["self", "title", "names", "statics", "bases"]) F.d_Draft_init.choose_spec 2 (by exact fun q => by cases q) (by exact rfl) (fun D doc pm an cdv ct us ks h1 h2 => match us, ks, h1, h2 with | [_, _], [_, _, _], _, _ => ⟨_, _, _, _, _, _, rfl, rfl, _, _, _, _, _, _, rfl, rfl, _, _, _, _, _, _, rfl, rfl, rfl⟩)
  exact ⟨_, _, _, _, _, f_Draft_init (w := w) (base := base) F, F.mk_Draft, F.g_Draft, hb, hv, Or.inr (rfl), fun Z H => RepL.cons (em_rep F.em_Draft_names) (RepL.cons (em_rep F.em_Draft_statics) (RepL.cons (em_rep F.em_Draft_bases) RepL.nil))⟩
theorem sc_Declaring_declares : FnScope ["self", "name"] ["self", "name"] (defScope (L2.inClass (top 12) 1)) := ⟨rfl, rfl, rfl, by decide +kernel, rfl, by decide +kernel, by decide +kernel⟩
theorem f_Declaring_declares {w : World} {K : PySem.W.Frag} {mg : Str → Option Value} {base : Heap} (F : Fx K mg) : PySem.W.keepIn K (.ref (mAd "Declaring" "declares" K)) = true ∧ FnOk PGm w K mg base (L2.CX PGm w) 1 (mAd "Declaring" "declares" K) F.d_Declaring_declares.choose ["self", "name"] (dsp (gg F) d_Declaring_declares) ∧ Binds K F.d_Declaring_declares.choose ["self", "name"] [] := by
  have FD := F.d_Declaring_declares.choose_spec
  refine ⟨FD.kp, fn_dsp FD rfl sc_Declaring_declares (Nat.le_of_ble_eq_true rfl) (k := 0) (b := b_Declaring_declares) (N := ["self", "name"]) (fun cdv A outer s H E Ze => ?_), FD.bindsN fun _ _ _ _ _ _ us hl => match us, hl with | [_, _], _ => rfl⟩
  exact dss_one (ds_ret (pd_or (pd_in ((pd_var 1).w) ((pd_fld ((pd_var 0).w)).w)) (pd_one (pd_in ((pd_var 1).w) ((pd_fld ((pd_var 0).w)).w)))))
theorem m_Draft_declares {w : World} {K : PySem.W.Frag} {mg : Str → Option Value} {base : Heap} (F : Fx K mg) : Mt PGm w K mg base (gg F) "Draft" "declares" d_Declaring_declares 1 := ⟨_, _, _, (f_Declaring_declares (w := w) (base := base) F).2.1, (F.eq_Draft_declares ▸ F.me_Draft_declares), (f_Declaring_declares (w := w) (base := base) F).2.2, by decide, F.cl_Draft⟩
theorem sc_Declaring_is_static : FnScope ["self", "name"] ["self", "name"] (defScope (L2.inClass (top 12) 2)) := ⟨rfl, rfl, rfl, by decide +kernel, rfl, by decide +kernel, by decide +kernel⟩
theorem f_Declaring_is_static {w : World} {K : PySem.W.Frag} {mg : Str → Option Value} {base : Heap} (F : Fx K mg) : PySem.W.keepIn K (.ref (mAd "Declaring" "is_static" K)) = true ∧ FnOk PGm w K mg base (L2.CX PGm w) 1 (mAd "Declaring" "is_static" K) F.d_Declaring_is_static.choose ["self", "name"] (dsp (gg F) d_Declaring_is_static) ∧ Binds K F.d_Declaring_is_static.choose ["self", "name"] [] := by
  have FD := F.d_Declaring_is_static.choose_spec
  refine ⟨FD.kp, fn_dsp FD rfl sc_Declaring_is_static (Nat.le_of_ble_eq_true rfl) (k := 0) (b := b_Declaring_is_static) (N := ["self", "name"]) (fun cdv A outer s H E Ze => ?_), FD.bindsN fun _ _ _ _ _ _ us hl => match us, hl with | [_, _], _ => rfl⟩
  exact dss_one (ds_ret (pd_in ((pd_var 1).w) ((pd_fld ((pd_var 0).w)).w)))
theorem m_Draft_is_static {w : World} {K : PySem.W.Frag} {mg : Str → Option Value} {base : Heap} (F : Fx K mg) : Mt PGm w K mg base (gg F) "Draft" "is_static" d_Declaring_is_static 1 := ⟨_, _, _, (f_Declaring_is_static (w := w) (base := base) F).2.1, (F.eq_Draft_is_static ▸ F.me_Draft_is_static), (f_Declaring_is_static (w := w) (base := base) F).2.2, by decide, F.cl_Draft⟩
theorem sc_law_shows : FnScope ["_law_draft", "_law_head", "_law_first", "_law_second", "_law_links", "_law_kept", "_law_part", "_law_base"] ["_law_draft", "_law_head", "_law_first", "_law_second", "_law_links"] (defScope (top 21)) := ⟨rfl, rfl, rfl, by decide +kernel, rfl, by decide +kernel, by decide +kernel⟩
theorem f_law_shows {w : World} {K : PySem.W.Frag} {mg : Str → Option Value} {base : Heap} (F : Fx K mg) : PySem.W.keepIn K (.ref (gAd "_law_shows" K)) = true ∧ FnOk PGm w K mg base (L2.CX PGm w) 2 (gAd "_law_shows" K) F.d_law_shows.choose ["_law_draft", "_law_head", "_law_first", "_law_second", "_law_links"] (dsp (gg F) d_law_shows) ∧ Binds K F.d_law_shows.choose ["_law_draft", "_law_head", "_law_first", "_law_second", "_law_links"] [] := by
  have FD := F.d_law_shows.choose_spec
  refine ⟨FD.kp, fn_dsp FD rfl sc_law_shows (Nat.le_of_ble_eq_true rfl) (k := 1) (b := b_law_shows) (N := ["_law_draft", "_law_head", "_law_first", "_law_second", "_law_links", "_law_kept", "_law_part", "_law_base"]) (fun cdv A outer s H E Ze => ?_), FD.bindsN fun _ _ _ _ _ _ us hl => match us, hl with | [_, _, _, _, _], _ => rfl⟩
  exact dss_cons (ds_if (pt_bo (pw_or' (pt_ne ((pd_fld ((pd_var 0).w)).w) ((pd_var 1).w)) (pw_or' (pt_not' (pt_tru ((pd_isO (F.io_Draft_Titled) (fun _ => rfl) (Or.inr (rfl)) (by exact rfl) F.n_isinstance ((pd_var 0).w) (by exact rfl) F.g_Titled).w))) (pw_or1' (pt_not' (pt_tru ((pd_isO (F.io_Draft_Declaring) (fun _ => rfl) (Or.inr (rfl)) (by exact rfl) F.n_isinstance ((pd_var 0).w) (by exact rfl) F.g_Declaring).w))))))) (dss_one (ds_ret (pd_bl))) (dss_nil)) (dss_cons (ds_for (di_of (pd_lst (da_cons (pd_fld ((pd_var 0).w)) (da_cons (pd_fld ((pd_var 0).w)) (da_cons (pd_fld ((pd_var 0).w)) (da_nil)))))) (dg_name (i := 5) (by exact rfl) (by exact Nat.le_of_ble_eq_true rfl) (by exact Or.inl rfl)) (dss_one (ds_if (pt_not' (pt_tru ((pd_isi "tuple" (by exact rfl) F.n_isinstance ((pd_var 5).w) (by exact rfl) F.n_tuple (by decide +kernel)).w))) (dss_one (ds_ret (pd_bl))) (dss_nil)))) (dss_cons (ds_if (pt_bo (pw_or' (pt_ne ((pd_fld ((pd_var 0).w)).w) ((pd_tuple (by exact rfl) F.n_tuple ((pd_var 2).w)).w)) (pw_or1' (pt_ne ((pd_fld ((pd_var 0).w)).w) ((pd_tuple (by exact rfl) F.n_tuple ((pd_var 3).w)).w))))) (dss_one (ds_ret (pd_bl))) (dss_nil)) (dss_cons (ds_for (di_of (pd_add ((pd_var 2).w) ((pd_var 3).w))) (dg_name (i := 6) (by exact rfl) (by exact Nat.le_of_ble_eq_true rfl) (by exact Or.inl rfl)) (dss_one (ds_if (pt_ne ((pd_lst (da_cons (pd_meth (m_Draft_declares (w := w) (base := base) F) (by exact Nat.le_of_ble_eq_true rfl) (pd_var 0) (da_cons (pd_var 6) (da_nil))) (da_cons (pd_meth (m_Draft_is_static (w := w) (base := base) F) (by exact Nat.le_of_ble_eq_true rfl) (pd_var 0) (da_cons (pd_var 6) (da_nil))) (da_nil)))).w) ((pd_lst (da_cons (pd_bl) (da_cons (pd_in ((pd_var 6).w) ((pd_var 3).w)) (da_nil)))).w)) (dss_one (ds_ret (pd_bl))) (dss_nil)))) (dss_cons (ds_if (pt_not' (pt_tru ((pd_all (by exact rfl) F.n_all ((pd_comp (own := [("_law_base", 7)]) (is := [7]) (PDI.w (di_of (pd_fld ((pd_var 0).w)))) (blkOk_by (by show blkC ["_law_draft", "_law_head", "_law_first", "_law_second", "_law_links", "_law_kept", "_law_part", "_law_base"] (defScope (top 21)) _ _ = true; decide +kernel)) (by decide) (fun _ _ _ _ _ _ => dg_name (i := 7) (by exact rfl) (by exact Nat.le_of_ble_eq_true rfl) (by exact Or.inl rfl)) (fun _ _ _ _ _ _ => dts_nil) (fun _ _ _ _ _ _ => pd_isi "bool" (by exact rfl) F.n_isinstance ((pd_fld ((pd_var 7).w)).w) (by exact rfl) F.n_bool (by decide +kernel))).w)).w))) (dss_one (ds_ret (pd_bl))) (dss_nil)) (dss_one (ds_ret (pd_eq ((pd_comp (own := [("_law_base", 7)]) (is := [7]) (PDI.w (di_of (pd_fld ((pd_var 0).w)))) (blkOk_by (by show blkC ["_law_draft", "_law_head", "_law_first", "_law_second", "_law_links", "_law_kept", "_law_part", "_law_base"] (defScope (top 21)) _ _ = true; decide +kernel)) (by decide) (fun _ _ _ _ _ _ => dg_name (i := 7) (by exact rfl) (by exact Nat.le_of_ble_eq_true rfl) (by exact Or.inl rfl)) (fun _ _ _ _ _ _ => dts_nil) (fun _ _ _ _ _ _ => pd_lst (da_cons (pd_fld ((pd_var 7).w)) (da_cons (pd_fld ((pd_var 7).w)) (da_nil))))).w) ((pd_var 4).w))))))))
theorem k_law_shows {w : World} {K : PySem.W.Frag} {mg : Str → Option Value} {base : Heap} (F : Fx K mg) : Fk PGm w K mg base (gg F) "_law_shows" d_law_shows 2 := ⟨_, _, _, (f_law_shows (w := w) (base := base) F).2.1, F.g__law_shows, (f_law_shows (w := w) (base := base) F).1, (f_law_shows (w := w) (base := base) F).2.2⟩
theorem sc_law_asked : FnScope ["_law_head", "_law_first", "_law_second", "_law_links", "_law_as_tuple", "_law_given", "_law_draft", "e", "f", "g", "_law_link"] ["_law_head", "_law_first", "_law_second", "_law_links", "_law_as_tuple"] (defScope (top 22)) := ⟨rfl, rfl, rfl, by decide +kernel, rfl, by decide +kernel, by decide +kernel⟩
theorem f_law_asked {w : World} {K : PySem.W.Frag} {mg : Str → Option Value} {base : Heap} (F : Fx K mg) : PySem.W.keepIn K (.ref (gAd "_law_asked" K)) = true ∧ FnOk PGm w K mg base (L2.CX PGm w) 6 (gAd "_law_asked" K) F.d_law_asked.choose ["_law_head", "_law_first", "_law_second", "_law_links", "_law_as_tuple"] (dsp (gg F) d_law_asked) ∧ Binds K F.d_law_asked.choose ["_law_head", "_law_first", "_law_second", "_law_links", "_law_as_tuple"] [] := by
  have FD := F.d_law_asked.choose_spec
  refine ⟨FD.kp, fn_dsp FD rfl sc_law_asked (Nat.le_of_ble_eq_true rfl) (k := 5) (b := b_law_asked) (N := ["_law_head", "_law_first", "_law_second", "_law_links", "_law_as_tuple", "_law_given", "_law_draft", "e", "f", "g", "_law_link"]) (fun cdv A outer s H E Ze => ?_), FD.bindsN fun _ _ _ _ _ _ us hl => match us, hl with | [_, _, _, _, _], _ => rfl⟩
  exact dss_treeL (i := 5) (pfa_cons (fun _ _ => pf_list (by exact rfl) F.n_list ((pd_var 1).w)) (pfa_cons (fun _ _ => pf_list (by exact rfl) F.n_list ((pd_var 2).w)) (pfa_cons (fun _ _ => pf_comp (own := [("_law_link", 10)]) (is := [10]) (PDI.w (di_of (pd_var 3))) (blkOk_by (by show blkC ["_law_head", "_law_first", "_law_second", "_law_links", "_law_as_tuple", "_law_given", "_law_draft", "e", "f", "g", "_law_link"] (defScope (top 22)) _ _ = true; decide +kernel)) (by decide) (fun _ _ _ _ _ _ => dg_name (i := 10) (by exact rfl) (by exact Nat.le_of_ble_eq_true rfl) (by exact Or.inl rfl)) (fun _ _ _ _ _ _ => dts_nil) (fun _ _ _ _ _ _ => pd_make (c_Base_init (w := w) (base := base) F) (by exact Nat.le_of_ble_eq_true rfl) (by exact rfl) (da_cons (pd_ix ((pd_var 10).w) ((pd_int).w)) (da_cons (pd_ix ((pd_var 10).w) ((pd_int).w)) (da_nil))))) (pfa_nil)))) (by exact rfl) (by exact Nat.le_of_ble_eq_true rfl) (by exact Or.inl rfl) (pvd_cons (pv_try (es := ["DuplicateBase", "DuplicateName", "InvalidWord"]) rfl rfl (fun W pn xe => pvs_one (pv_if (fun _ => pt_tru ((pd_var 4).w)) (pvs_one (pv_setX (by exact rfl) (by exact Nat.le_of_ble_eq_true rfl) (by exact Or.inl rfl) (fun _ => pd_makeK (kw_Draft_3 (w := w) (base := base) F) (by exact Nat.le_of_ble_eq_true rfl) (by exact rfl) (da_cons (pd_var 0) (da_nil)) (dk_cons (pd_tuple (by exact rfl) F.n_tuple ((pd_var 1).w)) (dk_cons (pd_tuple (by exact rfl) F.n_tuple ((pd_var 2).w)) (dk_cons (pd_tuple (by exact rfl) F.n_tuple ((pd_ix ((pd_var 5).w) ((pd_int).w)).w)) (dk_nil)))) rfl))) (pvs_one (pv_setX (by exact rfl) (by exact Nat.le_of_ble_eq_true rfl) (by exact Or.inl rfl) (fun _ => pd_makeK (kw_Draft_3 (w := w) (base := base) F) (by exact Nat.le_of_ble_eq_true rfl) (by exact rfl) (da_cons (pd_var 0) (da_nil)) (dk_cons (pd_ix ((pd_var 5).w) ((pd_int).w)) (dk_cons (pd_ix ((pd_var 5).w) ((pd_int).w)) (dk_cons (pd_ix ((pd_var 5).w) ((pd_int).w)) (dk_nil)))) rfl))))) (fun _ _ => .cons (c := "InvalidWord") ⟨by exact rfl, by decide, .inl F.g_InvalidWord⟩ (by exact rfl) (by exact rfl) (fun a ha => F.xcs.exr ((by decide : ∀ a ∈ ["DuplicateBase", "DuplicateName", "InvalidWord"], a ∈ ["DuplicateBase", "DuplicateName", "InvalidWord"]) a ha) (by decide) (by decide)) (fun e a dd oe pn su => dse_one (dse_ret (de_tup (dea_cons (de_lift (pd_str)) (dea_cons (de_xf su F.xcs (by decide) (fun _ => rfl) (f := "word") (by decide) (by exact rfl)) (dea_cons (de_and (de_isi su F.xcs (by decide) (fun _ => rfl) "HierarchyError" (by decide) (by exact rfl) (by exact rfl) F.n_isinstance (by exact rfl) F.g_HierarchyError (by decide)) (de_one (de_not (de_isi su F.xcs (by decide) (fun _ => rfl) "DuplicateName" (by decide) (by exact rfl) (by exact rfl) F.n_isinstance (by exact rfl) F.g_DuplicateName (by decide))))) (dea_nil))))))) (.cons (c := "DuplicateName") ⟨by exact rfl, by decide, .inl F.g_DuplicateName⟩ (by exact rfl) (by exact rfl) (fun a ha => F.xcs.exr ((by decide : ∀ a ∈ ["DuplicateBase", "DuplicateName", "InvalidWord"], a ∈ ["DuplicateBase", "DuplicateName", "InvalidWord"]) a ha) (by decide) (by decide)) (fun e a dd oe pn su => dse_one (dse_ret (de_tup (dea_cons (de_lift (pd_str)) (dea_cons (de_xf su F.xcs (by decide) (fun _ => rfl) (f := "name") (by decide) (by exact rfl)) (dea_cons (de_and (de_isi su F.xcs (by decide) (fun _ => rfl) "HierarchyError" (by decide) (by exact rfl) (by exact rfl) F.n_isinstance (by exact rfl) F.g_HierarchyError (by decide)) (de_one (de_not (de_isi su F.xcs (by decide) (fun _ => rfl) "DuplicateBase" (by decide) (by exact rfl) (by exact rfl) F.n_isinstance (by exact rfl) F.g_DuplicateBase (by decide))))) (dea_nil))))))) (.cons (c := "DuplicateBase") ⟨by exact rfl, by decide, .inl F.g_DuplicateBase⟩ (by exact rfl) (by exact rfl) (fun a ha => F.xcs.exr ((by decide : ∀ a ∈ ["DuplicateBase", "DuplicateName", "InvalidWord"], a ∈ ["DuplicateBase", "DuplicateName", "InvalidWord"]) a ha) (by decide) (by decide)) (fun e a dd oe pn su => dse_one (dse_ret (de_tup (dea_cons (de_lift (pd_str)) (dea_cons (de_xf su F.xcs (by decide) (fun _ => rfl) (f := "title") (by decide) (by exact rfl)) (dea_cons (de_and (de_isi su F.xcs (by decide) (fun _ => rfl) "HierarchyError" (by decide) (by exact rfl) (by exact rfl) F.n_isinstance (by exact rfl) F.g_HierarchyError (by decide)) (de_one (de_isiV su F.xcs (by decide) (fun _ => rfl) (by decide) (by exact rfl) (by exact rfl) F.n_isinstance (by exact rfl) F.n_ValueError))) (dea_nil))))))) (.nil))))) (pvd_cons (pv_appAt (fun _ => rfl) (fun _ _ => rfl) (by exact rfl) (fun _ => (pd_int).w) (fun _ => pd_str)) (pvd_cons (pv_appAt (fun _ => rfl) (fun _ _ => rfl) (by exact rfl) (fun _ => (pd_int).w) (fun _ => pd_str)) (pvd_cons (pv_appAt (fun _ => rfl) (fun _ _ => rfl) (by exact rfl) (fun _ => (pd_int).w) (fun _ => pd_makeDD (dd_Base_1 (w := w) (base := base) F) (by exact Nat.le_of_ble_eq_true rfl) (by exact rfl) (da_cons (pd_str) (da_nil)))) (pvd_out (dss_one (ds_ret (pd_tup (da_cons (pd_str) (da_cons (pd_str) (da_cons (pd_call (k_law_shows (w := w) (base := base) F) (by exact Nat.le_of_ble_eq_true rfl) (by exact rfl) (da_cons (pd_var 6) (da_cons (pd_var 0) (da_cons (pd_var 1) (da_cons (pd_var 2) (da_cons (pd_var 3) (da_nil))))))) (da_nil))))))))))))
theorem k_law_asked {w : World} {K : PySem.W.Frag} {mg : Str → Option Value} {base : Heap} (F : Fx K mg) : Fk PGm w K mg base (gg F) "_law_asked" d_law_asked 6 := ⟨_, _, _, (f_law_asked (w := w) (base := base) F).2.1, F.g__law_asked, (f_law_asked (w := w) (base := base) F).1, (f_law_asked (w := w) (base := base) F).2.2⟩
theorem sc_law : FnScope ["_law_script", "_law_draws", "_law_words", "_law_head", "_law_drawn", "_law_links", "_law_first", "_law_second", "_law_due_here", "_law_actual", "_law_k"] ["_law_script"] (defScope (top 23)) := ⟨rfl, rfl, rfl, by decide +kernel, rfl, by decide +kernel, by decide +kernel⟩
theorem f_law {w : World} {K : PySem.W.Frag} {mg : Str → Option Value} {base : Heap} (F : Fx K mg) : PySem.W.keepIn K (.ref (gAd "law" K)) = true ∧ FnOk PGm w K mg base (L2.CX PGm w) 7 (gAd "law" K) F.d_law.choose ["_law_script"] (dsp (gg F) d_law) ∧ Binds K F.d_law.choose ["_law_script"] [] := by
  have FD := F.d_law.choose_spec
  refine ⟨FD.kp, fn_dsp FD rfl sc_law (Nat.le_of_ble_eq_true rfl) (k := 6) (b := b_law) (N := ["_law_script", "_law_draws", "_law_words", "_law_head", "_law_drawn", "_law_links", "_law_first", "_law_second", "_law_due_here", "_law_actual", "_law_k"]) (fun cdv A outer s H E Ze => ?_), FD.bindsN fun _ _ _ _ _ _ us hl => match us, hl with | [_], _ => rfl⟩
  exact dss_cons (ds_set (i := 1) (by exact rfl) (by exact Nat.le_of_ble_eq_true rfl) (by exact Or.inr rfl) (pd_call (k_law_row (w := w) (base := base) F) (by exact Nat.le_of_ble_eq_true rfl) (by exact rfl) (da_cons (pd_call (k_law_cell (w := w) (base := base) F) (by exact Nat.le_of_ble_eq_true rfl) (by exact rfl) (da_cons (pd_var 0) (da_cons (pd_int) (da_nil)))) (da_cons (pd_int) (da_cons (pd_add ((pd_add ((pd_lst (da_cons (pd_int) (da_cons (pd_int) (da_cons (pd_int) (da_cons (pd_int) (da_cons (pd_int) (da_nil))))))).w) ((pd_mul ((pd_lst (da_cons (pd_int) (da_nil))).w) ((pd_int).w)).w)).w) ((pd_mul ((pd_lst (da_cons (pd_int) (da_nil))).w) ((pd_int).w)).w)) (da_nil)))))) (dss_cons (ds_set (i := 2) (by exact rfl) (by exact Nat.le_of_ble_eq_true rfl) (by exact Or.inr rfl) (pd_comp (own := [("_law_k", 10)]) (is := [10]) (PDI.w (di_range (by exact rfl) F.n_range (pd_int))) (blkOk_by (by show blkC ["_law_script", "_law_draws", "_law_words", "_law_head", "_law_drawn", "_law_links", "_law_first", "_law_second", "_law_due_here", "_law_actual", "_law_k"] (defScope (top 23)) _ _ = true; decide +kernel)) (by decide) (fun _ _ _ _ _ _ => dg_name (i := 10) (by exact rfl) (by exact Nat.le_of_ble_eq_true rfl) (by exact Or.inl rfl)) (fun _ _ _ _ _ _ => dts_nil) (fun _ _ _ _ _ _ => pd_call (k_law_word (w := w) (base := base) F) (by exact Nat.le_of_ble_eq_true rfl) (by exact rfl) (da_cons (pd_ix ((pd_var 1).w) ((pd_int).w)) (da_cons (pd_var 10) (da_nil)))))) (dss_cons (ds_set (i := 3) (by exact rfl) (by exact Nat.le_of_ble_eq_true rfl) (by exact Or.inl rfl) (pd_ix ((pd_var 2).w) ((pd_ix ((pd_var 1).w) ((pd_int).w)).w))) (dss_cons (ds_if (pt_eq ((pd_ix ((pd_var 1).w) ((pd_int).w)).w) ((pd_int).w)) (dss_one (ds_set (i := 3) (by exact rfl) (by exact Nat.le_of_ble_eq_true rfl) (by exact Or.inl rfl) (pd_ix ((pd_lst (da_cons (pd_str) (da_cons (pd_str) (da_cons (pd_str) (da_cons (pd_str) (da_cons (pd_str) (da_nil))))))).w) ((pd_mod ((pd_ix ((pd_var 1).w) ((pd_int).w)).w) ((pd_int).w)).w)))) (dss_nil)) (dss_cons (ds_set (i := 4) (by exact rfl) (by exact Nat.le_of_ble_eq_true rfl) (by exact Or.inl rfl) (pd_call (k_law_parts (w := w) (base := base) F) (by exact Nat.le_of_ble_eq_true rfl) (by exact rfl) (da_cons (pd_call (k_law_cell (w := w) (base := base) F) (by exact Nat.le_of_ble_eq_true rfl) (by exact rfl) (da_cons (pd_var 0) (da_cons (pd_int) (da_nil)))) (da_cons (pd_int) (da_cons (pd_slice ((pd_var 2).w) (px_none) (px_some ((pd_int).w))) (da_nil)))))) (dss_cons (ds_comp (i := 5) (by exact rfl) (by exact Nat.le_of_ble_eq_true rfl) (by exact rfl) (by exact sw_true rfl rfl rfl (by decide +kernel)) (own := [("_law_k", 10)]) (is := [10]) (PDI.w (di_range (by exact rfl) F.n_range (pd_ix ((pd_var 1).w) ((pd_int).w)))) (blkOk_by (by show blkC ["_law_script", "_law_draws", "_law_words", "_law_head", "_law_drawn", "_law_links", "_law_first", "_law_second", "_law_due_here", "_law_actual", "_law_k"] (defScope (top 23)) _ _ = true; decide +kernel)) (by decide) (fun _ _ _ _ _ _ => dg_name (i := 10) (by exact rfl) (by exact Nat.le_of_ble_eq_true rfl) (by exact Or.inl rfl)) (fun _ _ _ _ _ _ => dts_nil) (fun _ _ _ _ _ _ => pd_lst (da_cons (pd_ix ((pd_var 2).w) ((pd_var 10).w)) (da_cons (pd_eq ((pd_ix ((pd_var 1).w) ((pd_add ((pd_int).w) ((pd_var 10).w)).w)).w) ((pd_int).w)) (da_nil))))) (dss_cons (ds_if (pt_eq ((pd_ix ((pd_var 1).w) ((pd_int).w)).w) ((pd_int).w)) (dss_one (ds_comp (i := 5) (by exact rfl) (by exact Nat.le_of_ble_eq_true rfl) (by exact rfl) (by exact sw_true rfl rfl rfl (by decide +kernel)) (own := [("_law_k", 10)]) (is := [10]) (PDI.w (di_range (by exact rfl) F.n_range (pd_ix ((pd_var 1).w) ((pd_int).w)))) (blkOk_by (by show blkC ["_law_script", "_law_draws", "_law_words", "_law_head", "_law_drawn", "_law_links", "_law_first", "_law_second", "_law_due_here", "_law_actual", "_law_k"] (defScope (top 23)) _ _ = true; decide +kernel)) (by decide) (fun _ _ _ _ _ _ => dg_name (i := 10) (by exact rfl) (by exact Nat.le_of_ble_eq_true rfl) (by exact Or.inl rfl)) (fun _ _ _ _ _ _ => dts_nil) (fun _ _ _ _ _ _ => pd_lst (da_cons (pd_ix ((pd_var 2).w) ((pd_ix ((pd_var 1).w) ((pd_add ((pd_int).w) ((pd_var 10).w)).w)).w)) (da_cons (pd_eq ((pd_ix ((pd_var 1).w) ((pd_add ((pd_int).w) ((pd_var 10).w)).w)).w) ((pd_int).w)) (da_nil)))))) (dss_nil)) (dss_cons (ds_set (i := 6) (by exact rfl) (by exact Nat.le_of_ble_eq_true rfl) (by exact Or.inl rfl) (pd_slice ((pd_ix ((pd_var 4).w) ((pd_int).w)).w) (px_none) (px_some ((pd_ix ((pd_var 4).w) ((pd_int).w)).w)))) (dss_cons (ds_set (i := 7) (by exact rfl) (by exact Nat.le_of_ble_eq_true rfl) (by exact Or.inl rfl) (pd_slice ((pd_ix ((pd_var 4).w) ((pd_int).w)).w) (px_some ((pd_ix ((pd_var 4).w) ((pd_int).w)).w)) (px_none))) (dss_cons (ds_set (i := 8) (by exact rfl) (by exact Nat.le_of_ble_eq_true rfl) (by exact Or.inl rfl) (pd_call (k_law_due (w := w) (base := base) F) (by exact Nat.le_of_ble_eq_true rfl) (by exact rfl) (da_cons (pd_var 3) (da_cons (pd_ix ((pd_var 4).w) ((pd_int).w)) (da_cons (pd_var 5) (da_nil)))))) (dss_cons (ds_set (i := 9) (by exact rfl) (by exact Nat.le_of_ble_eq_true rfl) (by exact Or.inl rfl) (pd_call (k_law_asked (w := w) (base := base) F) (by exact Nat.le_of_ble_eq_true rfl) (by exact rfl) (da_cons (pd_var 3) (da_cons (pd_var 6) (da_cons (pd_var 7) (da_cons (pd_var 5) (da_cons (pd_eq ((pd_ix ((pd_var 1).w) ((pd_int).w)).w) ((pd_int).w)) (da_nil)))))))) (dss_cons (ds_if (pt_ne ((pd_var 9).w) ((pd_tup (da_cons (pd_ix ((pd_var 8).w) ((pd_int).w)) (da_cons (pd_ix ((pd_var 8).w) ((pd_int).w)) (da_cons (pd_bl) (da_nil))))).w)) (dss_one (ds_ret (pd_bl))) (dss_nil)) (dss_one (ds_ret (pd_call (k_law_shows (w := w) (base := base) F) (by exact Nat.le_of_ble_eq_true rfl) (by exact rfl) (da_cons (pd_makeDD (dd_Draft_1 (w := w) (base := base) F) (by exact Nat.le_of_ble_eq_true rfl) (by exact rfl) (da_cons (pd_ix ((pd_var 2).w) ((pd_int).w)) (da_nil))) (da_cons (pd_ix ((pd_var 2).w) ((pd_int).w)) (da_cons (pd_lst (da_nil)) (da_cons (pd_lst (da_nil)) (da_cons (pd_lst (da_nil)) (da_nil))))))))))))))))))))
end Tw

set_option maxHeartbeats 0
namespace Tw
open PySem PySem.Spec PyProof.Rows L2
theorem fx_of {K : PySem.W.Frag} {hp : Heap} {mg : Str → Option Value} (X : K.In hp) (G : hp.Ns mainGlobals mg) (c0 : SaysX fb fa fn fx K) (c : SaysT fb fa fn K := c0.base) : Fx K mg where
  n_ValueError := He.free_ok X G (c.fact 0)
  n_abs := He.free_ok X G (c.fact 1)
  n_all := He.free_ok X G (c.fact 2)
  n_bool := He.free_ok X G (c.fact 3)
  n_int := He.free_ok X G (c.fact 4)
  n_isinstance := He.free_ok X G (c.fact 5)
  n_len := He.free_ok X G (c.fact 6)
  n_list := He.free_ok X G (c.fact 7)
  n_range := He.free_ok X G (c.fact 8)
  n_sum := He.free_ok X G (c.fact 9)
  n_super := He.free_ok X G (c.fact 10)
  n_tuple := He.free_ok X G (c.fact 11)
  c_DIGITS := He.str_ok X G (c.fact 12)
  c_LETTERS := He.str_ok X G (c.fact 13)
  c_LONGEST := He.int_ok X G (c.fact 14)
  g_Base := He.glo_ok X G (c.fact 15)
  g_Declaring := He.glo_ok X G (c.fact 16)
  g_Draft := He.glo_ok X G (c.fact 17)
  g_DuplicateBase := He.glo_ok X G (c.fact 18)
  g_DuplicateName := He.glo_ok X G (c.fact 19)
  g_HierarchyError := He.glo_ok X G (c.fact 20)
  g_InvalidWord := He.glo_ok X G (c.fact 21)
  g_Titled := He.glo_ok X G (c.fact 22)
  g__law_asked := He.glo_ok X G (c.fact 23)
  g__law_cell := He.glo_ok X G (c.fact 24)
  g__law_due := He.glo_ok X G (c.fact 25)
  g__law_is_word := He.glo_ok X G (c.fact 26)
  g__law_parts := He.glo_ok X G (c.fact 27)
  g__law_row := He.glo_ok X G (c.fact 28)
  g__law_shows := He.glo_ok X G (c.fact 29)
  g__law_word := He.glo_ok X G (c.fact 30)
  g_law := He.glo_ok X G (c.fact 31)
  cl_Base := He.cls_ok (c.fact 32)
  na_Base_title := He.noat_ok (c.fact 33)
  na_Base_is_shared := He.noat_ok (c.fact 34)
  cl_Draft := He.cls_ok (c.fact 35)
  na_Draft_title := He.noat_ok (c.fact 36)
  na_Draft_names := He.noat_ok (c.fact 37)
  na_Draft_statics := He.noat_ok (c.fact 38)
  na_Draft_bases := He.noat_ok (c.fact 39)
  mk_Base := He.mkr_ok (c.fact 40)
  mk_Draft := He.mkr_ok (c.fact 41)
  me_Draft_declares := He.meth_ok (c.fact 42)
  me_Draft_is_static := He.meth_ok (c.fact 43)
  eq_Draft_declares := of_decide_eq_true (c.own 0)
  eq_Draft_is_static := of_decide_eq_true (c.own 1)
  sm_Titled_is_word := smB_ok (c.own 2)
  pm_Declaring_init := pmB_ok (c.own 3)
  pm_Titled_init := pmB_ok (c.own 4)
  em_Draft_bases := emB_ok (c.own 5)
  em_Draft_names := emB_ok (c.own 6)
  em_Draft_statics := emB_ok (c.own 7)
  xcs := xcsB_ok (c.own 8)
  io_Draft_Declaring := ioB_ok (c.own 9)
  io_Draft_Titled := ioB_ok (c.own 10)
  d_law_row := c.def_ 0
  d_law_cell := c.def_ 1
  d_law_word := c.def_ 2
  d_law_parts := c.def_ 3
  d_law_is_word := c.def_ 4
  d_law_due := c.def_ 5
  d_Titled_is_word := c.def_ 6
  d_Titled_init := c.def_ 7
  d_Base_init := c.def_ 8
  d_Declaring_init := c.def_ 9
  d_Draft_init := c.def_ 10
  d_Declaring_declares := c.def_ 11
  d_Declaring_is_static := c.def_ 12
  d_law_shows := c.def_ 13
  d_law_asked := c.def_ 14
  d_law := c.def_ 15
  xc_DuplicateBase := xcB_ok (c.own 11) (c0.init 0)
  ox_DuplicateBase := oexB_ok (c.own 12)
  xn_DuplicateBase_title := of_decide_eq_true (c.own 13)
  xc_DuplicateName := xcB_ok (c.own 14) (c0.init 1)
  ox_DuplicateName := oexB_ok (c.own 15)
  xn_DuplicateName_name := of_decide_eq_true (c.own 16)
  xc_InvalidWord := xcB_ok (c.own 17) (c0.init 2)
  ox_InvalidWord := oexB_ok (c.own 18)
  xn_InvalidWord_word := of_decide_eq_true (c.own 19)
theorem law_sp {K : PySem.W.Frag} {mg : Str → Option Value} (F : Fx K mg) (ok : ∀ ns : List Int, ns.length ≤ 63 → d_law [.scr ns] = .ok (.bl true)) (H : Hp) (a : Addr) (ns : List Int) (hl : ns.length ≤ 63) (hS : SqL K H a (ns.map V.int)) : dsp (gg F) d_law [.ref a] H (fun v _ => v = .bl true) fun _ _ _ => False := by
  refine ⟨fun _ => False, [.scr ns], fun a z => z.elim, RepL.one ⟨a, rfl, hS.imp (fun r => ⟨fun z => z, r⟩) id⟩, ?_⟩
  rw [ok ns hl]
  exact fun v H' _ r => r
end Tw

namespace Tw
open PySem
/-- a loop that runs through: what holds ahead of each turn -/
theorem forL_inv {g : DG} {cl : List Nat} {b : DS} (I : Nat → DEnv → Prop) : ∀ (l : List D) (n : Nat) (ρ : DEnv), I n ρ →
    (∀ i d ρ, l[i]? = some d → I (n + i) ρ → ∃ ρ', ((g d ρ).bind b = .ok (.nx ρ') ∨ (g d ρ).bind b = .ok (.ct ρ')) ∧ I (n + i + 1) (clrD cl ρ')) →
    ∃ ρ', forL g cl b l ρ = .ok (.nx ρ') ∧ I (n + l.length) ρ'
  | [], n, ρ, h, _ => ⟨ρ, rfl, h⟩
  | d :: l, n, ρ, h, hs => by
    obtain ⟨ρ1, e, h1⟩ := hs 0 d ρ rfl h
    obtain ⟨ρ2, e2, h2⟩ := forL_inv I l (n + 1) (clrD cl ρ1) h1 fun i d ρ hd hI => by
      have := hs (i + 1) d ρ (by simpa using hd) (by rw [show n + (i + 1) = n + 1 + i by omega]; exact hI)
      rwa [show n + (i + 1) + 1 = n + 1 + i + 1 by omega] at this
    refine ⟨ρ2, ?_, by rw [List.length_cons, show n + (l.length + 1) = n + 1 + l.length by omega]; exact h2⟩
    rcases e with e | e
    · simp only [forL, e]; exact e2
    · simp only [forL, e]; exact e2
theorem forL_ok {g : DG} {cl : List Nat} {b : DS} (I : Nat → DEnv → Prop) (l : List D) (ρ : DEnv) (h : I 0 ρ)
    (hs : ∀ i d ρ, l[i]? = some d → I i ρ → ∃ ρ', ((g d ρ).bind b = .ok (.nx ρ') ∨ (g d ρ).bind b = .ok (.ct ρ')) ∧ I (i + 1) (clrD cl ρ')) :
    ∃ ρ', forL g cl b l ρ = .ok (.nx ρ') ∧ I l.length ρ' := by
  obtain ⟨ρ', e, k⟩ := forL_inv I l 0 ρ h fun i d ρ hd hI => by
    rw [Nat.zero_add] at hI ⊢
    exact hs i d ρ hd hI
  rw [Nat.zero_add] at k
  exact ⟨ρ', e, k⟩
/-- the state ahead of each turn, told -/
theorem forL_st {g : DG} {cl : List Nat} {b : DS} (s : Nat → DEnv) (l : List D) (hs : ∀ i d, l[i]? = some d → ∃ ρ', ((g d (s i)).bind b = .ok (.nx ρ') ∨ (g d (s i)).bind b = .ok (.ct ρ')) ∧ clrD cl ρ' = s (i + 1)) :
    forL g cl b l (s 0) = .ok (.nx (s l.length)) := by
  obtain ⟨ρ', e, k⟩ := forL_ok (g := g) (cl := cl) (b := b) (fun i ρ => ρ = s i) l (s 0) rfl fun i d ρ hd hI => by
    subst hI
    exact hs i d hd
  rw [e, k]
theorem deqL_refl_str : ∀ (l : List Str), deqL (l.map D.str) (l.map D.str) = true
  | [] => rfl
  | s :: l => by
    simp only [List.map_cons, deqL, deqL_refl_str l, Bool.and_true, deq]
    exact beq_self_eq_true s
theorem any_deq_str (s : Str) (l : List Str) : ((l.map D.str).any fun y => deq y (.str s)) = decide (s ∈ l) := by
  induction l with
  | nil => rfl
  | cons a l ih =>
    simp only [List.map_cons, List.any_cons, ih, deq, List.mem_cons, Bool.decide_or]
    congr 1
    by_cases h : s = a
    · subst h; simp
    · have h' : ¬ a = s := fun e => h e.symm
      simp [h, h']
theorem all_flat_str (l : List Str) : (l.map D.str).all flatD = true := by
  induction l with
  | nil => rfl
  | cons a l ih => simp [flatD]
theorem inD_tup_str (s : Str) (l : List Str) : inD (.str s) (.tup (l.map .str)) = some (decide (s ∈ l)) := by
  unfold inD
  simp only [show flatD (.str s) = true from rfl, all_flat_str, Bool.and_self, if_true, any_deq_str]
theorem inD_lst_str (s : Str) (l : List Str) : inD (.str s) (.lst (l.map .str)) = some (decide (s ∈ l)) := by
  unfold inD
  simp only [show flatD (.str s) = true from rfl, all_flat_str, Bool.and_self, if_true, any_deq_str]
theorem atD_pos {α : Type} {l : List α} {i : Int} (h : 0 ≤ i) : atD l i = l[i.toNat]? := by
  unfold atD
  rw [if_pos h]
theorem cutD_from {α : Type} (l : List α) (i : Int) (h : 0 ≤ i) : cutD l (some i) none = l.drop i.toNat := by
  unfold cutD sIxD
  have h' : ¬ i < 0 := by omega
  simp only [h', if_false]
  by_cases k : i.toNat ≤ l.length
  · rw [Nat.min_eq_left k, List.take_of_length_le (by simp)]
  · rw [Nat.min_eq_right (by omega), List.drop_of_length_le (Nat.le_refl _), List.drop_of_length_le (by omega)]; simp
theorem cutD_to {α : Type} (l : List α) (i : Int) (h : 0 ≤ i) : cutD l none (some i) = l.take i.toNat := by
  unfold cutD sIxD
  have h' : ¬ i < 0 := by omega
  simp only [h', if_false, List.drop_zero, Nat.sub_zero]
  by_cases k : i.toNat ≤ l.length
  · rw [Nat.min_eq_left k]
  · rw [Nat.min_eq_right (by omega), List.take_of_length_le (Nat.le_refl _), List.take_of_length_le (by omega)]
theorem rangeD_get {n : Int} {i : Nat} {d : D} (h : (rangeD n)[i]? = some d) : d = .int i ∧ i < n.toNat := by
  unfold rangeD at h
  rw [List.getElem?_map] at h
  obtain ⟨j, e, rfl⟩ := Option.map_eq_some_iff.mp h
  have hi : i < n.toNat := by
    have := (List.getElem?_eq_some_iff.mp e).1
    rwa [List.length_range] at this
  rw [List.getElem?_range hi] at e
  cases e
  exact ⟨rfl, hi⟩
theorem rangeD_len {n : Int} : (rangeD n).length = n.toNat := by unfold rangeD; rw [List.length_map, List.length_range]
theorem oMod_ok {i j : Int} (h : 0 < j) : oMod (.int i) (.int j) = some (.int (i % j)) := by
  unfold oMod
  exact if_pos h
theorem oFdiv_ok {i j : Int} (h : 0 < j) (k : j < 1073741824) : oFdiv (.int i) (.int j) = some (.int (i / j)) := by
  unfold oFdiv
  exact if_pos ⟨h, k⟩
theorem oMul_r {i j : Int} (h : w64 j) : oMul (.int i) (.int j) = some (.int (i * j)) := by
  unfold oMul
  exact if_pos (.inr h)
theorem oMul_l {i j : Int} (h : w64 i) : oMul (.int i) (.int j) = some (.int (i * j)) := by
  unfold oMul
  exact if_pos (.inl h)
theorem sSeq_nx {a b : DS} {ρ ρ1 : DEnv} (h : a ρ = .ok (.nx ρ1)) : sSeq a b ρ = b ρ1 := by
  unfold sSeq
  rw [h]
theorem sSeq_rt {a b : DS} {ρ ρ1 : DEnv} {d : D} (h : a ρ = .ok (.rt d ρ1)) : sSeq a b ρ = .ok (.rt d ρ1) := by
  unfold sSeq
  rw [h]
theorem defD_rt {n p : Nat} {b : DS} {ds : List D} {d : D} {ρ : DEnv} (hl : ds.length = p) (h : b (envD n ds) = .ok (.rt d ρ)) : defD n p b ds = .ok d := by
  unfold defD
  rw [if_pos hl, h]
theorem sIf_t {c : DT} {a b : DS} {ρ : DEnv} (h : c ρ = .ok true) : sIf c a b ρ = a ρ := by
  unfold sIf
  rw [h]
  rfl
theorem sIf_f {c : DT} {a b : DS} {ρ : DEnv} (h : c ρ = .ok false) : sIf c a b ρ = b ρ := by
  unfold sIf
  rw [h]
  rfl
theorem sFor_ok {it : DI} {g : DG} {cl : List Nat} {b : DS} {ρ : DEnv} {l : List D} (h : it ρ = .ok l) : sFor it g cl b ρ = forL g cl b l (clrD cl ρ) := by
  unfold sFor
  rw [h]
  rfl
theorem sSet_ok {i : Nat} {e : DE} {ρ ρ1 : DEnv} {d : D} (h : e ρ = .ok d) (k : setV i d ρ = .ok ρ1) : sSet i e ρ = .ok (.nx ρ1) := by
  unfold sSet
  rw [h, R.st_ok, k]
  rfl
theorem sOwn_ok {i : Nat} {e : DE} {ρ ρ1 : DEnv} {d : D} (h : e ρ = .ok d) (k : setO i d ρ = .ok ρ1) : sOwn i e ρ = .ok (.nx ρ1) := by
  unfold sOwn
  rw [h, R.st_ok, k]
  rfl
theorem sRet_ok {e : DE} {ρ : DEnv} {d : D} (h : e ρ = .ok d) : sRet e ρ = .ok (.rt d ρ) := by
  unfold sRet
  rw [h]
  rfl
theorem e1_ok {f : D → Option D} {a : DE} {ρ : DEnv} {x y : D} (h : a ρ = .ok x) (k : f x = some y) : e1 f a ρ = .ok y := by
  unfold e1
  rw [h, R.bind_ok, k]
  rfl
theorem e2_ok {f : D → D → Option D} {a b : DE} {ρ : DEnv} {x y z : D} (h : a ρ = .ok x) (h2 : b ρ = .ok y) (k : f x y = some z) : e2 f a b ρ = .ok z := by
  unfold e2
  rw [h, R.bind_ok, h2, R.bind_ok, k]
  rfl
theorem tVal_ok {a : DE} {ρ : DEnv} {b : Bool} (h : a ρ = .ok (.bl b)) : tVal a ρ = .ok b := by
  unfold tVal
  rw [h]
  rfl
theorem iRange_ok {a : DE} {ρ : DEnv} {n : Int} (h : a ρ = .ok (.int n)) (hn : rngOk n) : iRange a ρ = .ok (rangeD n) := by
  unfold iRange
  rw [h]
  exact rngR_ok hn
theorem iOf_ok {a : DE} {ρ : DEnv} {d : D} {l : List D} (h : a ρ = .ok d) (k : iterD d = some l) : iOf a ρ = .ok l := by
  unfold iOf
  rw [h, R.bind_ok, k]
  rfl
end Tw

set_option maxHeartbeats 2000000
namespace Tw
open PySem
theorem law_cell_ok (ns : List Int) (k : Int) (hk : 0 ≤ k) : ∃ c : Int, d_law_cell [.scr ns, .int k] = .ok (.int c) := by
  by_cases h : k < (ns.length : Int)
  · have hn : k.toNat < ns.length := by omega
    refine ⟨ns[k.toNat], ?_⟩
    simp [d_law_cell, defD, envD, b_law_cell, sSeq, sIf, tVal, e1, e2, eVar, eC, oLen, oLt, h, sRet, oIx, atD_pos hk, List.getElem?_eq_getElem hn, oInt]
  · refine ⟨(ns.sum * 31 + k * 1009 + ns.length) % 1000003, ?_⟩
    simp [d_law_cell, defD, envD, b_law_cell, sSeq, sIf, tVal, e1, e2, eVar, eC, oLen, oLt, h, sRet, sNext, oSum, oMul_r (show w64 31 by decide), oMul_r (show w64 1009 by decide), oAdd, oInt, oMod]
/-- the entries stand below their limits -/
def Below (row ls : List Int) : Prop := ∀ (i : Nat) (x l : Int), row[i]? = some x → ls[i]? = some l → 0 ≤ x ∧ x < l
theorem Below.snoc {row ls : List Int} {x l : Int} (h : Below row ls) (hl : ls[row.length]? = some l) (hx : 0 ≤ x ∧ x < l) : Below (row ++ [x]) ls := fun i y m e1 e2 => by
  by_cases hi : i < row.length
  · rw [List.getElem?_append_left hi] at e1
    exact h i y m e1 e2
  · rw [List.getElem?_append_right (by omega)] at e1
    have hi2 : i - row.length = 0 := by
      rcases Nat.eq_zero_or_pos (i - row.length) with z | z
      · exact z
      · rw [List.getElem?_eq_none (by simp; omega)] at e1
        cases e1
    have : i = row.length := by omega
    subst this
    rw [Nat.sub_self] at e1
    simp at e1
    subst e1
    rw [hl] at e2
    cases e2
    exact hx
theorem map_get {l : List Int} {i : Nat} {d : D} (h : (l.map D.int)[i]? = some d) : ∃ x, l[i]? = some x ∧ d = .int x := by
  rw [List.getElem?_map] at h
  obtain ⟨x, e, rfl⟩ := Option.map_eq_some_iff.mp h
  exact ⟨x, e, rfl⟩
theorem pow1018 : oPow (.int 10) (.int 18) = some (.int 1000000000000000000) := by
  show (if (0 : Int) ≤ 18 ∧ (18 : Int) ≤ 1000000 ∧ (10 : Int).natAbs < 2 ^ 64 then some (D.int (10 ^ (18 : Int).toNat)) else none) = _
  rw [if_pos (by decide)]
  rfl
theorem row_step2 (c s r l : Int) (ls acc : List D) (n : Int) (A B : Int) (l1 : 0 < l) (hlen : acc.length < lineD)
  (hA : (r * 48271 + s * 7919 + n * 69621 + 11) % 2147483647 = A) (hA1 : w64 A) (hB2 : (A * (A / 1024 + 16807) + r + n) % 2147483399 = B)
  (qa : oIx (.lst ls) (.int n) = some (.int l)) :
  (gVar 6 (.int n) [some (.val (.int c)), some (.val (.int s)), some (.val (.lst ls)), some (.own (.lst acc)), some (.val (.int r)), none, none, none]).bind b_law_row_2 =
   .ok (.nx [some (.val (.int c)), some (.val (.int s)), some (.val (.lst ls)), some (.own (.lst (acc ++ [.int (B / 11 % l)]))), some (.val (.int r)), none, some (.val (.int n)), some (.val (.int B))]) := by
  have q1 : ∀ x, oMod (.int x) (.int 2147483647) = some (.int (x % 2147483647)) := fun x => oMod_ok (by decide)
  have q2 : ∀ x, oMod (.int x) (.int 2147483399) = some (.int (x % 2147483399)) := fun x => oMod_ok (by decide)
  have q3 : ∀ x, oFdiv (.int x) (.int 1024) = some (.int (x / 1024)) := fun x => oFdiv_ok (by decide) (by decide)
  have q4 : ∀ x, oFdiv (.int x) (.int 11) = some (.int (x / 11)) := fun x => oFdiv_ok (by decide) (by decide)
  have q5 : ∀ x, oMul (.int x) (.int 48271) = some (.int (x * 48271)) := fun x => oMul_r (by decide)
  have q6 : ∀ x, oMul (.int x) (.int 7919) = some (.int (x * 7919)) := fun x => oMul_r (by decide)
  have q7 : ∀ x, oMul (.int x) (.int 69621) = some (.int (x * 69621)) := fun x => oMul_r (by decide)
  have q8 : ∀ x, oMul (.int A) (.int x) = some (.int (A * x)) := fun x => oMul_l hA1
  have q9 : ∀ x, oMod (.int x) (.int l) = some (.int (x % l)) := fun x => oMod_ok l1
  simp only [gVar, setV, b_law_row_2, sSeq, sApp, sSet, e1, e2, eVar, eC, oInt, oAdd, List.getElem?_cons_succ, List.getElem?_cons_zero, List.set_cons_succ, List.set_cons_zero, R.bind_ok, R.st_ok, R.of_some, q1, q2, q3, q4, q5, q6, q7, hA, q8, hB2, q9, qa, hlen, if_true]
theorem row_step (c s r l : Int) (ls acc : List D) (n : Int) (l1 : 0 < l) (hlen : acc.length < lineD) (qa : oIx (.lst ls) (.int n) = some (.int l)) : ∃ v B : Int, (0 ≤ v ∧ v < l) ∧
  (gVar 6 (.int n) [some (.val (.int c)), some (.val (.int s)), some (.val (.lst ls)), some (.own (.lst acc)), some (.val (.int r)), none, none, none]).bind b_law_row_2 =
   .ok (.nx [some (.val (.int c)), some (.val (.int s)), some (.val (.lst ls)), some (.own (.lst (acc ++ [.int v]))), some (.val (.int r)), none, some (.val (.int n)), some (.val (.int B))]) := by
  have k1 : ∀ x : Int, w64 (x % 2147483647) := fun x => by
    have m1 : 0 ≤ x % 2147483647 ∧ x % 2147483647 < 2147483647 := ⟨Int.emod_nonneg _ (by decide), Int.emod_lt_of_pos _ (by decide)⟩
    exact w64_of (by omega) (by omega)
  exact ⟨_, _, ⟨Int.emod_nonneg _ (Int.ne_of_gt l1), Int.emod_lt_of_pos _ l1⟩, row_step2 c s r l ls acc n _ _ l1 hlen rfl (k1 _) rfl qa⟩
theorem law_row_ok (c s : Int) (ls : List Int) (h : ∀ l ∈ ls, 0 < l ∧ l < 1073741824) (hl : ls.length < 1000000) :
    ∃ row : List Int, d_law_row [.int c, .int s, .lst (ls.map .int)] = .ok (.lst (row.map .int)) ∧ row.length = ls.length ∧ Below row ls := by
  have hb : ∀ {i : Nat} {l : Int}, ls[i]? = some l → 0 < l ∧ l < 1073741824 := fun e => h _ (List.mem_of_getElem? e)
  have ab : ∃ r : Int, oAbs (.int c) = some (.int r) := ⟨_, rfl⟩
  obtain ⟨r, hr⟩ := ab
  by_cases hbig : (1000000000000000000 : Int) ≤ r
  · have loop := forL_ok (g := gVar 5) (cl := [5]) (b := b_law_row_1) (fun i ρ => ∃ (acc : List Int) (q : Int), ρ = [some (.val (.int c)), some (.val (.int s)), some (.val (.lst (ls.map .int))), some (.own (.lst (acc.map .int))), some (.val (.int q)), none, none, none] ∧ acc.length = i ∧ Below acc ls)
      (ls.map .int) [some (.val (.int c)), some (.val (.int s)), some (.val (.lst (ls.map .int))), some (.own (.lst [])), some (.val (.int r)), none, none, none] ⟨[], r, rfl, rfl, fun i x l e => by simp at e⟩ (fun i d ρ hd hI => by
        obtain ⟨acc, q, rfl, rfl, hB⟩ := hI
        obtain ⟨l, e, rfl⟩ := map_get hd
        obtain ⟨l1, l2⟩ := hb e
        have hlen : acc.length < lineD := by
          have := (List.getElem?_eq_some_iff.mp e).1
          show acc.length < 16777216
          omega
        refine ⟨[some (.val (.int c)), some (.val (.int s)), some (.val (.lst (ls.map .int))), some (.own (.lst ((acc ++ [q % l]).map .int))), some (.val (.int (q / l))), some (.val (.int l)), none, none], .inl ?_, acc ++ [q % l], q / l, rfl, by simp, hB.snoc e ⟨Int.emod_nonneg _ (by omega), Int.emod_lt_of_pos _ l1⟩⟩
        simp [gVar, setV, b_law_row_1, sSeq, sApp, sSet, e1, e2, eVar, oMod, oInt, oFdiv, l1, l2, hlen])
    obtain ⟨ρ, e, acc, q, rfl, hlen, hB⟩ := loop
    rw [List.length_map] at hlen
    refine ⟨acc, ?_, hlen, hB⟩
    simp [d_law_row, defD, envD, b_law_row, sSeq, sOwn, setO, eLst, aNil, sSet, setV, e1, e2, eVar, eC, oInt, hr, pow1018, oGe, sIf, tVal, hbig, sFor, iOf, iterD, clrD, clr1]
    rw [e]
    simp [sFrz, frzD, sRet, eVar]
  · obtain ⟨n, hn⟩ : ∃ n : Int, n = ls.length := ⟨_, rfl⟩
    have loop := forL_ok (g := gVar 6) (cl := [6, 7]) (b := b_law_row_2) (fun i ρ => ∃ (acc : List Int), ρ = [some (.val (.int c)), some (.val (.int s)), some (.val (.lst (ls.map .int))), some (.own (.lst (acc.map .int))), some (.val (.int r)), none, none, none] ∧ acc.length = i ∧ Below acc ls)
      (rangeD n) [some (.val (.int c)), some (.val (.int s)), some (.val (.lst (ls.map .int))), some (.own (.lst [])), some (.val (.int r)), none, none, none] ⟨[], rfl, rfl, fun i x l e => by simp at e⟩ (fun i d ρ hd hI => by
        obtain ⟨acc, rfl, rfl, hB⟩ := hI
        obtain ⟨rfl, hi⟩ := rangeD_get hd
        have hi : acc.length < ls.length := by rw [hn, Int.toNat_natCast] at hi; exact hi
        have e : ls[acc.length]? = some ls[acc.length] := List.getElem?_eq_getElem hi
        obtain ⟨l1, l2⟩ := hb e
        have hlen : acc.length < lineD := by
          show acc.length < 16777216
          omega
        have qa : oIx (.lst (ls.map .int)) (.int acc.length) = some (.int ls[acc.length]) := by
          simp only [oIx, atD_pos (Int.natCast_nonneg _), Int.toNat_natCast, List.getElem?_map, e, Option.map_some]
        obtain ⟨v, B, hv, st⟩ := row_step c s r ls[acc.length] (ls.map .int) (acc.map .int) acc.length l1 (by rw [List.length_map]; exact hlen) qa
        refine ⟨_, .inl st, acc ++ [v], ?_, by rw [List.length_append]; rfl, hB.snoc e hv⟩
        rw [List.map_append]
        rfl)
    obtain ⟨ρ, e, acc, rfl, hlen, hB⟩ := loop
    rw [rangeD_len] at hlen
    refine ⟨acc, ?_, by rw [hlen, hn, Int.toNat_natCast], hB⟩
    have hrng : rngOk n := rngOk_of (by omega) (by omega)
    have hlenD : oLen (.lst (ls.map .int)) = some (.int n) := by rw [hn]; simp only [oLen, List.length_map]
    clear hn
    refine defD_rt (ρ := [some (.val (.int c)), some (.val (.int s)), some (.val (.lst (ls.map .int))), some (.val (.lst (acc.map .int))), some (.val (.int r)), none, none, none]) rfl ?_
    unfold b_law_row
    refine Eq.trans (sSeq_nx (sOwn_ok (d := .lst []) rfl rfl)) ?_
    refine Eq.trans (sSeq_nx (sSet_ok (e1_ok (e1_ok (y := .int c) rfl rfl) hr) rfl)) ?_
    refine Eq.trans (sSeq_nx (ρ1 := [some (.val (.int c)), some (.val (.int s)), some (.val (.lst (ls.map .int))), some (.own (.lst [])), some (.val (.int r)), none, none, none]) (Eq.trans (sIf_f (tVal_ok (e2_ok (x := .int r) (y := .int 1000000000000000000) rfl (e2_ok rfl rfl pow1018) (by simp only [oGe, hbig, decide_false])))) rfl)) ?_
    refine Eq.trans (sSeq_nx (Eq.trans (sFor_ok (iRange_ok (e1_ok (x := .lst (ls.map .int)) rfl hlenD) hrng)) e)) ?_
    rfl
end Tw

set_option maxHeartbeats 2000000
namespace Tw
open PySem
/-- a text by its signs -/
def S (l : List Nat) : Str := ⟨l.toArray⟩
theorem S_inj {a b : List Nat} (h : S a = S b) : a = b := by
  have := congrArg (fun s : Str => s.cps.toList) h
  simpa [S] using this
theorem S_app (a b : List Nat) : S a ++ S b = S (a ++ b) := by
  show Str.append _ _ = _
  unfold Str.append S
  simp
theorem S_len (a : List Nat) : (S a).length = a.length := by
  unfold S Str.length
  simp
def LT : List Nat := [65, 66, 67, 68, 69, 70, 71, 72, 73, 74, 75, 76, 77, 78, 79, 80, 81, 82, 83, 84, 85, 86, 87, 88, 89, 90, 97, 98, 99, 100, 101, 102, 103, 104, 105, 106, 107, 108, 109, 110, 111, 112, 113, 114, 115, 116, 117, 118, 119, 120, 121, 122]
def DG10 : List Nat := [48, 49, 50, 51, 52, 53, 54, 55, 56, 57]
abbrev sLT : Str := Str.ofString "ABCDEFGHIJKLMNOPQRSTUVWXYZabcdefghijklmnopqrstuvwxyz"
abbrev sDG : Str := Str.ofString "0123456789"
theorem sLT_eq : sLT = S LT := by decide +kernel
theorem sDG_eq : sDG = S DG10 := by decide +kernel
theorem oAdd_S {a b : List Nat} (h : a.length + b.length ≤ lineD) : oAdd (.str (S a)) (.str (S b)) = some (.str (S (a ++ b))) := by
  show (if (S a).length + (S b).length ≤ lineD then some (D.str (S a ++ S b)) else none) = _
  rw [S_len, S_len, if_pos h, S_app]
theorem oLen_S {a : List Nat} (h : a.length ≤ lineD) : oLen (.str (S a)) = some (.int a.length) := by
  show (if (S a).length ≤ lineD then some (D.int (S a).length) else none) = _
  rw [S_len, if_pos h]
theorem oIx_S {a : List Nat} {i : Int} {c : Nat} (h : a.length ≤ lineD) (hi : 0 ≤ i) (e : a[i.toNat]? = some c) : oIx (.str (S a)) (.int i) = some (.str (S [c])) := by
  show (if (S a).length ≤ lineD then (match atD (S a).cps.toList i with | some c => some (D.str ⟨#[c]⟩) | none => none) else none) = _
  rw [S_len, if_pos h, atD_pos hi, show (S a).cps.toList = a by simp [S], e]
  rfl
/-- the word k of the style: its front, its letter, its back -/
def wordL (f b : List Nat) (z : Bool) (t : Nat) (k : Nat) : List Nat :=
  f ++ [LT.getD ((k * 5 + t) % 52) 0] ++ ((if 52 ≤ k then [121] else []) ++ (b ++ (if z && k % 2 == 1 then [122] else [])))
def isFr (f : List Nat) : Prop := f = [] ∨ f = [113] ∨ f = [90, 120] ∨ f = [110, 55, 119]
def isBk (b : List Nat) : Prop := b = [] ∨ b = [48] ∨ b = [97, 66] ∨ b = [57, 107]
theorem isFr.len {f : List Nat} (h : isFr f) : f.length ≤ 3 := by rcases h with rfl | rfl | rfl | rfl <;> decide
theorem isBk.len {f : List Nat} (h : isBk f) : f.length ≤ 2 := by rcases h with rfl | rfl | rfl | rfl <;> decide
theorem mod4 (s : Int) : s % 4 = 0 ∨ s % 4 = 1 ∨ s % 4 = 2 ∨ s % 4 = 3 := by omega
theorem fr_ok (s : Int) : ∃ f, isFr f ∧ oIx (.lst [.str "", .str "q", .str "Zx", .str "n7w"]) (.int (s % 4)) = some (.str (S f)) := by
  rcases mod4 s with e | e | e | e <;> rw [e]
  · exact ⟨[], .inl rfl, congrArg (fun x => some (D.str x)) (show Str.ofString "" = S [] by decide +kernel)⟩
  · exact ⟨[113], .inr (.inl rfl), congrArg (fun x => some (D.str x)) (show Str.ofString "q" = S [113] by decide +kernel)⟩
  · exact ⟨[90, 120], .inr (.inr (.inl rfl)), congrArg (fun x => some (D.str x)) (show Str.ofString "Zx" = S [90, 120] by decide +kernel)⟩
  · exact ⟨[110, 55, 119], .inr (.inr (.inr rfl)), congrArg (fun x => some (D.str x)) (show Str.ofString "n7w" = S [110, 55, 119] by decide +kernel)⟩
theorem bk_ok (s : Int) : ∃ f, isBk f ∧ oIx (.lst [.str "", .str "0", .str "aB", .str "9k"]) (.int (s % 4)) = some (.str (S f)) := by
  rcases mod4 s with e | e | e | e <;> rw [e]
  · exact ⟨[], .inl rfl, congrArg (fun x => some (D.str x)) (show Str.ofString "" = S [] by decide +kernel)⟩
  · exact ⟨[48], .inr (.inl rfl), congrArg (fun x => some (D.str x)) (show Str.ofString "0" = S [48] by decide +kernel)⟩
  · exact ⟨[97, 66], .inr (.inr (.inl rfl)), congrArg (fun x => some (D.str x)) (show Str.ofString "aB" = S [97, 66] by decide +kernel)⟩
  · exact ⟨[57, 107], .inr (.inr (.inr rfl)), congrArg (fun x => some (D.str x)) (show Str.ofString "9k" = S [57, 107] by decide +kernel)⟩
theorem oEq_int (i j : Int) : oEq (.int i) (.int j) = some (.bl (i == j)) := rfl
theorem small_le {n : Nat} (h : n ≤ 1000) : n ≤ lineD := by
  show n ≤ 16777216
  omega
theorem mulz (i : Int) (h : i % 2 = 0 ∨ i % 2 = 1) : oMul (.str "z") (.int (i % 2)) = some (.str (S (if i % 2 = 1 then [122] else []))) := by
  rcases h with e | e <;> rw [e]
  · exact congrArg (fun x => some (D.str x)) (show repS (Str.ofString "z") 0 = S [] by decide +kernel)
  · exact congrArg (fun x => some (D.str x)) (show repS (Str.ofString "z") 1 = S [122] by decide +kernel)
theorem law_word_ok (s : Int) (hs : 0 ≤ s) : ∃ (f b : List Nat) (z : Bool) (t : Nat), isFr f ∧ isBk b ∧ ∀ k : Nat, k < 1000 → d_law_word [.int s, .int k] = .ok (.str (S (wordL f b z t k))) := by
  obtain ⟨f, hf, ef⟩ := fr_ok s
  obtain ⟨b, hb, eb⟩ := bk_ok (s / 4)
  have lf := hf.len
  have lb := hb.len
  refine ⟨f, b, s / 16 % 2 == 1, (s / 32).toNat, hf, hb, fun k hk => ?_⟩
  have d4 : oFdiv (.int s) (.int 4) = some (.int (s / 4)) := oFdiv_ok (by decide) (by decide)
  have d16 : oFdiv (.int s) (.int 16) = some (.int (s / 16)) := oFdiv_ok (by decide) (by decide)
  have d32 : oFdiv (.int s) (.int 32) = some (.int (s / 32)) := oFdiv_ok (by decide) (by decide)
  have m4 : ∀ x, oMod (.int x) (.int 4) = some (.int (x % 4)) := fun x => oMod_ok (by decide)
  have m2 : ∀ x, oMod (.int x) (.int 2) = some (.int (x % 2)) := fun x => oMod_ok (by decide)
  have m52 : ∀ x, oMod (.int x) (.int 52) = some (.int (x % 52)) := fun x => oMod_ok (by decide)
  have k5 : ∀ x, oMul (.int x) (.int 5) = some (.int (x * 5)) := fun x => oMul_r (by decide)
  have b1l : (b ++ (if (s / 16 % 2 == 1) && k % 2 == 1 then [122] else [])).length ≤ 3 := by
    rw [List.length_append]; split <;> simp <;> omega
  refine defD_rt (ρ := [some (.val (.int s)), some (.val (.int k)), some (.val (.str (S LT))), some (.val (.str (S f))), some (.val (.str (S ((if 52 ≤ k then [121] else []) ++ (b ++ (if (s / 16 % 2 == 1) && k % 2 == 1 then [122] else []))))))]) rfl ?_
  unfold b_law_word
  refine Eq.trans (sSeq_nx (ρ1 := [some (.val (.int s)), some (.val (.int k)), some (.val (.str (S LT))), none, none]) (sSet_ok (d := .str (S LT)) (congrArg (fun x => Tw.R.ok (D.str x)) sLT_eq) rfl)) ?_
  refine Eq.trans (sSeq_nx (sSet_ok (e2_ok (x := .lst [.str "", .str "q", .str "Zx", .str "n7w"]) (y := .int (s % 4)) rfl (e2_ok (x := .int s) rfl rfl (m4 _)) ef) rfl)) ?_
  refine Eq.trans (sSeq_nx (ρ1 := [some (.val (.int s)), some (.val (.int k)), some (.val (.str (S LT))), some (.val (.str (S f))), some (.val (.str (S b)))]) (sSet_ok (e2_ok (x := .lst [.str "", .str "0", .str "aB", .str "9k"]) (y := .int (s / 4 % 4)) rfl (e2_ok (e2_ok (x := .int s) rfl rfl d4) rfl (m4 _)) eb) rfl)) ?_
  refine Eq.trans (sSeq_nx (ρ1 := [some (.val (.int s)), some (.val (.int k)), some (.val (.str (S LT))), some (.val (.str (S f))), some (.val (.str (S (b ++ (if (s / 16 % 2 == 1) && k % 2 == 1 then [122] else [])))))]) ?_) ?_
  · have et : tVal (e2 oEq (e2 oMod (e2 oFdiv (e1 oInt (eVar 0)) (eC (.int 16))) (eC (.int 2))) (eC (.int 1))) [some (.val (.int s)), some (.val (.int k)), some (.val (.str (S LT))), some (.val (.str (S f))), some (.val (.str (S b)))] = .ok (s / 16 % 2 == 1) :=
      tVal_ok (e2_ok (e2_ok (e2_ok (x := .int s) rfl rfl d16) rfl (m2 _)) rfl (oEq_int _ _))
    cases hz : (s / 16 % 2 == 1) with
    | true =>
      rw [hz] at et
      refine Eq.trans (sIf_t et) ?_
      have hk2 : ((k : Int) % 2 = 1) ↔ (k % 2 = 1) := by omega
      have em := mulz (k : Int) (by omega)
      refine sSet_ok (e2_ok (x := .str (S b)) (y := .str (S (if (k : Int) % 2 = 1 then [122] else []))) rfl (e2_ok (x := .str "z") (y := .int ((k : Int) % 2)) rfl (e1_ok (e2_ok (x := .int k) rfl rfl (m2 _)) rfl) em) (oAdd_S (small_le ?_))) ?_
      · split <;> simp <;> omega
      · have ei : (if (k : Int) % 2 = 1 then [122] else ([] : List Nat)) = if (true && k % 2 == 1) then [122] else [] := by
          by_cases h : k % 2 = 1
          · rw [if_pos (hk2.mpr h), if_pos (by simp [h])]
          · rw [if_neg (fun z => h (hk2.mp z)), if_neg (by simp [h])]
        rw [ei]
        rfl
    | false =>
      rw [hz] at et
      refine Eq.trans (sIf_f et) ?_
      simp only [Bool.false_and, Bool.false_eq_true, if_false, List.append_nil]
      rfl
  · generalize hB : (b ++ (if (s / 16 % 2 == 1) && k % 2 == 1 then [122] else [])) = B at b1l ⊢
    have et : tVal (e2 oGe (eVar 1) (eC (.int 52))) [some (.val (.int s)), some (.val (.int k)), some (.val (.str (S LT))), some (.val (.str (S f))), some (.val (.str (S B)))] = .ok (decide ((52 : Int) ≤ (k : Int))) := tVal_ok (e2_ok (x := .int k) rfl rfl rfl)
    refine Eq.trans (sSeq_nx (ρ1 := [some (.val (.int s)), some (.val (.int k)), some (.val (.str (S LT))), some (.val (.str (S f))), some (.val (.str (S ((if 52 ≤ k then [121] else []) ++ B))))]) ?_) ?_
    · by_cases h : 52 ≤ k
      · rw [decide_eq_true (by omega)] at et
        refine Eq.trans (sIf_t et) ?_
        rw [if_pos h]
        exact sSet_ok (e2_ok (x := .str (S [121])) (y := .str (S B)) (congrArg (fun x => Tw.R.ok (D.str x)) (show Str.ofString "y" = S [121] by decide +kernel)) rfl (oAdd_S (small_le (by simp; omega)))) rfl
      · rw [decide_eq_false (by omega)] at et
        refine Eq.trans (sIf_f et) ?_
        rw [if_neg h]
        rfl
    · generalize hC : (if 52 ≤ k then [121] else []) ++ B = C
      have lC : C.length ≤ 4 := by rw [← hC, List.length_append]; split <;> simp <;> omega
      have hix : ((k : Int) * 5 + s / 32) % 52 = (((k * 5 + (s / 32).toNat) % 52 : Nat) : Int) := by
        have : (0 : Int) ≤ s / 32 := Int.ediv_nonneg hs (by decide)
        omega
      have hlt : (k * 5 + (s / 32).toNat) % 52 < 52 := Nat.mod_lt _ (by decide)
      have hg : LT[(k * 5 + (s / 32).toNat) % 52]? = some (LT.getD ((k * 5 + (s / 32).toNat) % 52) 0) := by
        rw [List.getD_eq_getElem?_getD, List.getElem?_eq_getElem (show _ < LT.length from hlt)]
        rfl
      have eix : oIx (.str (S LT)) (.int (((k : Int) * 5 + s / 32) % 52)) = some (.str (S [LT.getD ((k * 5 + (s / 32).toNat) % 52) 0])) := by
        rw [hix]
        exact oIx_S (small_le (by decide)) (Int.natCast_nonneg _) hg
      have ew : wordL f b (s / 16 % 2 == 1) (s / 32).toNat k = f ++ [LT.getD ((k * 5 + (s / 32).toNat) % 52) 0] ++ C := by
        unfold wordL
        rw [hB, hC]
      rw [ew]
      exact sRet_ok (e2_ok (e2_ok (x := .str (S f)) rfl (e2_ok (x := .str (S LT)) rfl (e2_ok (e1_ok (e2_ok (e2_ok (x := .int k) rfl rfl (k5 _)) (e2_ok (x := .int s) rfl rfl d32) rfl) rfl) rfl (m52 _)) eix) (oAdd_S (small_le (by simp; omega)))) rfl (oAdd_S (small_le (by simp; omega))))
end Tw

set_option maxHeartbeats 2000000
namespace Tw
open PySem
def isL (c : Nat) : Bool := decide (c ∈ LT)
def isLD (c : Nat) : Bool := decide (c ∈ LT) || decide (c ∈ DG10)
def isW : List Nat → Bool
  | [] => false
  | c :: l => decide (l.length < 8) && isL c && (c :: l).all isLD
theorem in_LT (c : Nat) : oNotIn (.str (S [c])) (.str sLT) = some (.bl (!isL c)) := by
  rw [sLT_eq]
  rfl
theorem in_DG (c : Nat) : oNotIn (.str (S [c])) (.str sDG) = some (.bl (!decide (c ∈ DG10))) := by
  rw [sDG_eq]
  rfl
theorem tOr_t {a b : DT} {ρ : DEnv} (h : a ρ = .ok true) : tOrD a b ρ = .ok true := by
  unfold tOrD
  rw [h]
  rfl
theorem tOr_f {a b : DT} {ρ : DEnv} {x : Bool} (h : a ρ = .ok false) (k : b ρ = .ok x) : tOrD a b ρ = .ok x := by
  unfold tOrD
  rw [h]
  exact k
theorem tAnd_t {a b : DT} {ρ : DEnv} {x : Bool} (h : a ρ = .ok true) (k : b ρ = .ok x) : tAndD a b ρ = .ok x := by
  unfold tAndD
  rw [h]
  exact k
theorem tAnd_f {a b : DT} {ρ : DEnv} (h : a ρ = .ok false) : tAndD a b ρ = .ok false := by
  unfold tAndD
  rw [h]
  rfl
theorem tNot_ok {a : DT} {ρ : DEnv} {x : Bool} (h : a ρ = .ok x) : tNotD a ρ = .ok (!x) := by
  unfold tNotD
  rw [h]
  rfl
theorem tTru_bl {a : DE} {ρ : DEnv} {b : Bool} (h : a ρ = .ok (.bl b)) : tTru a ρ = .ok b := by
  unfold tTru
  rw [h]
  rfl
theorem iw_step (w : D) (c : Nat) : (gVar 1 (.str (S [c])) [some (.val w), none]).bind b_Titled_is_word_1 = if isLD c then .ok (.nx [some (.val w), some (.val (.str (S [c])))]) else .ok (.rt (.bl false) [some (.val w), some (.val (.str (S [c])))]) := by
  show b_Titled_is_word_1 [some (.val w), some (.val (.str (S [c])))] = _
  unfold b_Titled_is_word_1
  have t1 : tVal (e2 oNotIn (eVar 1) (eC (.str sLT))) [some (.val w), some (.val (.str (S [c])))] = .ok (!isL c) := tVal_ok (e2_ok (x := .str (S [c])) rfl rfl (in_LT c))
  have t2 : tVal (e2 oNotIn (eVar 1) (eC (.str sDG))) [some (.val w), some (.val (.str (S [c])))] = .ok (!decide (c ∈ DG10)) := tVal_ok (e2_ok (x := .str (S [c])) rfl rfl (in_DG c))
  cases h1 : isL c with
  | true =>
    rw [h1] at t1
    refine Eq.trans (sIf_f (tAnd_f t1)) ?_
    have : isLD c = true := by unfold isLD; rw [show decide (c ∈ LT) = true from h1]; rfl
    rw [if_pos this]
    rfl
  | false =>
    rw [h1] at t1
    cases h2 : decide (c ∈ DG10) with
    | true =>
      rw [h2] at t2
      refine Eq.trans (sIf_f (tAnd_t t1 t2)) ?_
      have : isLD c = true := by unfold isLD; rw [show decide (c ∈ LT) = false from h1, h2]; rfl
      rw [if_pos this]
      rfl
    | false =>
      rw [h2] at t2
      refine Eq.trans (sIf_t (tAnd_t t1 t2)) ?_
      have : isLD c = false := by unfold isLD; rw [show decide (c ∈ LT) = false from h1, h2]; rfl
      rw [this]
      rfl
theorem iw_loop (w : D) : ∀ l : List Nat, (l.all isLD = true → forL (gVar 1) [1] b_Titled_is_word_1 (l.map fun c => .str (S [c])) [some (.val w), none] = .ok (.nx [some (.val w), none])) ∧
    (l.all isLD = false → ∃ ρ, forL (gVar 1) [1] b_Titled_is_word_1 (l.map fun c => .str (S [c])) [some (.val w), none] = .ok (.rt (.bl false) ρ))
  | [] => ⟨fun _ => rfl, fun h => by cases h⟩
  | c :: l => by
    have ih := iw_loop w l
    have st := iw_step w c
    cases hc : isLD c with
    | true =>
      rw [hc, if_pos rfl] at st
      have e : forL (gVar 1) [1] b_Titled_is_word_1 ((c :: l).map fun c => .str (S [c])) [some (.val w), none] = forL (gVar 1) [1] b_Titled_is_word_1 (l.map fun c => .str (S [c])) [some (.val w), none] := by
        simp only [List.map_cons, forL, st]
        rfl
      rw [e, List.all_cons, hc, Bool.true_and]
      exact ih
    | false =>
      rw [hc, if_neg Bool.false_ne_true] at st
      refine ⟨fun h => (by rw [List.all_cons, hc] at h; cases h), fun _ => ⟨[some (.val w), some (.val (.str (S [c])))], ?_⟩⟩
      simp only [List.map_cons, forL, st]
theorem defD_of {n p : Nat} {b : DS} {ds : List D} {d : D} (hl : ds.length = p) (h : ∃ ρ, b (envD n ds) = .ok (.rt d ρ)) : defD n p b ds = .ok d := let ⟨_, h⟩ := h; defD_rt hl h
theorem is_word_ok (l : List Nat) (hl : l.length ≤ 1000) : d_Titled_is_word [.str (S l)] = .ok (.bl (isW l)) := by
  refine defD_of rfl ?_
  show ∃ ρ, b_Titled_is_word [some (.val (.str (S l))), none] = _
  unfold b_Titled_is_word
  have el : e1 oLen (eVar 0) [some (.val (.str (S l))), none] = .ok (.int l.length) := e1_ok (x := .str (S l)) rfl (oLen_S (small_le hl))
  have t1 : tVal (e2 oLt (e1 oLen (eVar 0)) (eC (.int 1))) [some (.val (.str (S l))), none] = .ok (decide ((l.length : Int) < 1)) := tVal_ok (e2_ok el rfl rfl)
  have t2 : tVal (e2 oGt (e1 oLen (eVar 0)) (eC (.int 8))) [some (.val (.str (S l))), none] = .ok (decide ((8 : Int) < l.length)) := tVal_ok (e2_ok el rfl rfl)
  have out : ∀ {c : DT} {q : DS}, c [some (.val (.str (S l))), none] = .ok true → ∃ ρ, sSeq (sIf c (sRet (eC (.bl false))) sNext) q [some (.val (.str (S l))), none] = .ok (.rt (.bl false) ρ) := fun h => ⟨_, sSeq_rt (Eq.trans (sIf_t h) rfl)⟩
  cases l with
  | nil => exact out (tOr_t t1)
  | cons c l =>
    rw [decide_eq_false (by rw [List.length_cons]; omega)] at t1
    have t3 : tVal (e2 oNotIn (e2 oIx (eVar 0) (eC (.int 0))) (eC (.str sLT))) [some (.val (.str (S (c :: l)))), none] = .ok (!isL c) :=
      tVal_ok (e2_ok (e2_ok (x := .str (S (c :: l))) rfl rfl (oIx_S (c := c) (small_le hl) (Int.le_refl 0) rfl)) rfl (in_LT c))
    rw [show isW (c :: l) = (decide (l.length < 8) && isL c && (c :: l).all isLD) from rfl]
    by_cases h8 : l.length < 8
    · rw [decide_eq_false (by rw [List.length_cons]; omega)] at t2
      rw [decide_eq_true h8, Bool.true_and]
      cases hc : isL c with
      | false =>
        rw [hc] at t3
        exact out (tOr_f t1 (tOr_f t2 t3))
      | true =>
        rw [hc] at t3
        rw [Bool.true_and]
        have hn : sIf (tOrD (tVal (e2 oLt (e1 oLen (eVar 0)) (eC (.int 1)))) (tOrD (tVal (e2 oGt (e1 oLen (eVar 0)) (eC (.int 8)))) (tVal (e2 oNotIn (e2 oIx (eVar 0) (eC (.int 0))) (eC (.str sLT)))))) (sRet (eC (.bl false))) sNext [some (.val (.str (S (c :: l)))), none] = .ok (.nx [some (.val (.str (S (c :: l)))), none]) :=
          Eq.trans (sIf_f (tOr_f t1 (tOr_f t2 t3))) rfl
        have hf : sFor (iOf (eVar 0)) (gVar 1) [1] b_Titled_is_word_1 [some (.val (.str (S (c :: l)))), none] = forL (gVar 1) [1] b_Titled_is_word_1 ((c :: l).map fun c => .str (S [c])) [some (.val (.str (S (c :: l)))), none] :=
          sFor_ok (iOf_ok (d := .str (S (c :: l))) rfl (by simp [iterD, S]))
        have lp := iw_loop (.str (S (c :: l))) (c :: l)
        cases ha : (c :: l).all isLD with
        | true => exact ⟨_, Eq.trans (sSeq_nx hn) (Eq.trans (sSeq_nx (Eq.trans hf (lp.1 ha))) rfl)⟩
        | false =>
          obtain ⟨ρ, e⟩ := lp.2 ha
          exact ⟨ρ, Eq.trans (sSeq_nx hn) (sSeq_rt (Eq.trans hf e))⟩
    · rw [decide_eq_true (by rw [List.length_cons]; omega)] at t2
      rw [decide_eq_false h8, Bool.false_and, Bool.false_and]
      exact out (tOr_f t1 (tOr_t t2))
theorem isLD_LT {n : Nat} (h : n < 52) : isL (LT.getD n 0) = true ∧ isLD (LT.getD n 0) = true := by
  have : ∀ i : Fin 52, isL (LT.getD i.1 0) = true ∧ isLD (LT.getD i.1 0) = true := by decide +kernel
  exact this ⟨n, h⟩
theorem LT_inj {n m : Nat} (h : n < 52) (k : m < 52) (e : LT.getD n 0 = LT.getD m 0) : n = m := by
  have : ∀ i j : Fin 52, LT.getD i.1 0 = LT.getD j.1 0 → i = j := by decide +kernel
  exact congrArg Fin.val (this ⟨n, h⟩ ⟨m, k⟩ e)
theorem word_ok {f b : List Nat} {z : Bool} {t k : Nat} (hf : isFr f) (hb : isBk b) : isW (wordL f b z t k) = true ∧ (wordL f b z t k).length ≤ 8 := by
  obtain ⟨h1, h2⟩ := isLD_LT (Nat.mod_lt (k * 5 + t) (show 0 < 52 by decide))
  unfold wordL
  generalize LT.getD ((k * 5 + t) % 52) 0 = c at h1 h2
  have hy : (if 52 ≤ k then [121] else ([] : List Nat)) = [] ∨ (if 52 ≤ k then [121] else ([] : List Nat)) = [121] := by split <;> simp
  have hz : (if z && k % 2 == 1 then [122] else ([] : List Nat)) = [] ∨ (if z && k % 2 == 1 then [122] else ([] : List Nat)) = [122] := by split <;> simp
  have d1 : isLD 113 = true := by decide +kernel
  have d2 : isLD 90 = true := by decide +kernel
  have d3 : isLD 120 = true := by decide +kernel
  have d4 : isLD 110 = true := by decide +kernel
  have d5 : isLD 55 = true := by decide +kernel
  have d6 : isLD 119 = true := by decide +kernel
  have d7 : isLD 48 = true := by decide +kernel
  have d8 : isLD 97 = true := by decide +kernel
  have d9 : isLD 66 = true := by decide +kernel
  have da : isLD 57 = true := by decide +kernel
  have db : isLD 107 = true := by decide +kernel
  have dc : isLD 121 = true := by decide +kernel
  have dd : isLD 122 = true := by decide +kernel
  have g1 : isL 113 = true := by decide +kernel
  have g2 : isL 90 = true := by decide +kernel
  have g3 : isL 110 = true := by decide +kernel
  rcases hy with e | e <;> rw [e] <;> rcases hz with e | e <;> rw [e] <;> rcases hf with rfl | rfl | rfl | rfl <;> rcases hb with rfl | rfl | rfl | rfl <;>
    simp [isW, h1, h2, d1, d2, d3, d4, d5, d6, d7, d8, d9, da, db, dc, dd, g1, g2, g3]
theorem word_inj {f b : List Nat} {z : Bool} {t j k : Nat} (hj : j < 62) (hk : k < 62) (e : wordL f b z t j = wordL f b z t k) : j = k := by
  unfold wordL at e
  rw [List.append_assoc, List.append_assoc] at e
  have e := List.append_cancel_left e
  simp only [List.singleton_append, List.cons.injEq] at e
  obtain ⟨e1, e2⟩ := e
  have em := LT_inj (Nat.mod_lt _ (by decide)) (Nat.mod_lt _ (by decide)) e1
  have h52 : j % 52 = k % 52 := by omega
  have hp : j % 2 = k % 2 := by omega
  have el := congrArg List.length e2
  rw [hp] at el
  simp only [List.length_append] at el
  by_cases a : 52 ≤ j <;> by_cases c : 52 ≤ k <;> simp [a, c] at el <;> omega
end Tw

set_option maxHeartbeats 2000000
namespace Tw
open PySem
def stL (ws : List (List Nat)) : List D := ws.map fun w => .str (S w)
theorem stL_eq (ws : List (List Nat)) : stL ws = (ws.map S).map D.str := by unfold stL; rw [List.map_map]; rfl
theorem mem_S {w : List Nat} {ws : List (List Nat)} : S w ∈ ws.map S ↔ w ∈ ws := by
  refine ⟨fun h => ?_, fun h => List.mem_map_of_mem h⟩
  obtain ⟨v, hv, e⟩ := List.mem_map.mp h
  rwa [← S_inj e]
theorem inD_lst (w : List Nat) (ws : List (List Nat)) : inD (.str (S w)) (.lst (stL ws)) = some (decide (w ∈ ws)) := by
  rw [stL_eq, inD_lst_str]
  congr 1
  exact decide_eq_decide.mpr mem_S
theorem inD_tup (w : List Nat) (ws : List (List Nat)) : inD (.str (S w)) (.tup (stL ws)) = some (decide (w ∈ ws)) := by
  rw [stL_eq, inD_tup_str]
  congr 1
  exact decide_eq_decide.mpr mem_S
theorem oIn_lst (w : List Nat) (ws : List (List Nat)) : oIn (.str (S w)) (.lst (stL ws)) = some (.bl (decide (w ∈ ws))) := by
  unfold oIn
  rw [inD_lst]
  rfl
theorem oIn_tup (w : List Nat) (ws : List (List Nat)) : oIn (.str (S w)) (.tup (stL ws)) = some (.bl (decide (w ∈ ws))) := by
  unfold oIn
  rw [inD_tup]
  rfl
theorem stL_len (ws : List (List Nat)) : (stL ws).length = ws.length := by unfold stL; rw [List.length_map]
theorem stL_app (a b : List (List Nat)) : stL (a ++ b) = stL a ++ stL b := by unfold stL; rw [List.map_append]
theorem stL_get {ws : List (List Nat)} {i : Nat} {d : D} (h : (stL ws)[i]? = some d) : ∃ w, ws[i]? = some w ∧ d = .str (S w) := by
  unfold stL at h
  rw [List.getElem?_map] at h
  obtain ⟨w, e, rfl⟩ := Option.map_eq_some_iff.mp h
  exact ⟨w, e, rfl⟩
/-- a list or a tuple of these -/
def Lt (d : D) (l : List D) : Prop := d = .lst l ∨ d = .tup l
theorem Lt.list {d : D} {l : List D} (h : Lt d l) : oList d = some (.lst l) := by rcases h with rfl | rfl <;> rfl
theorem Lt.tuple {d : D} {l : List D} (h : Lt d l) : oTuple d = some (.tup l) := by rcases h with rfl | rfl <;> rfl
theorem sApp_ok {i : Nat} {e : DE} {ρ ρ1 : DEnv} {l : List D} {d : D} (h : ρ[i]? = some (some (.own (.lst l)))) (k : e ρ = .ok d) (hl : l.length < lineD) (r : ρ.set i (some (.own (.lst (l ++ [d])))) = ρ1) : sApp i e ρ = .ok (.nx ρ1) := by
  unfold sApp
  rw [h]
  simp only [k, R.st_ok, if_pos hl, r]
theorem sFld_ok {i : Nat} {f : Str} {e : DE} {ρ ρ1 : DEnv} {d s s' : D} (h : ρ[i]? = some (some (.slf s))) (k : e ρ = .ok d) (p : putF f d s = some s') (r : ρ.set i (some (.slf s')) = ρ1) : sFld i f e ρ = .ok (.nx ρ1) := by
  unfold sFld
  rw [k]
  simp only [R.st_ok, h, p, r]
theorem eCall_ok {f : List D → R D} {as : DA} {ρ : DEnv} {ds : List D} {d : D} (h : as ρ = .ok ds) (k : f ds = .ok d) : eCall f as ρ = .ok d := by
  unfold eCall
  rw [h]
  exact k
theorem aCons_ok {a : DE} {as : DA} {ρ : DEnv} {d : D} {ds : List D} (h : a ρ = .ok d) (k : as ρ = .ok ds) : aCons a as ρ = .ok (d :: ds) := by
  unfold aCons
  rw [h, R.bind_ok, k]
  rfl
theorem decl_step (s nd sd : D) (w : List Nat) (gs : List (List Nat)) (hw : isW w = true) (hl : w.length ≤ 1000) (hg : gs.length < 1000) (hn : w ∉ gs) :
    (gVar 4 (.str (S w)) [some (.slf s), some (.val nd), some (.val sd), some (.own (.lst (stL gs))), none]).bind b_Declaring_init_1 = .ok (.nx [some (.slf s), some (.val nd), some (.val sd), some (.own (.lst (stL (gs ++ [w])))), some (.val (.str (S w)))]) := by
  show b_Declaring_init_1 [some (.slf s), some (.val nd), some (.val sd), some (.own (.lst (stL gs))), some (.val (.str (S w)))] = _
  unfold b_Declaring_init_1
  have c1 := is_word_ok w hl
  rw [hw] at c1
  refine Eq.trans (sSeq_nx (Eq.trans (sIf_f (tNot_ok (tTru_bl (eCall_ok (aCons_ok (d := .str (S w)) rfl rfl) c1)))) rfl)) ?_
  have c2 := oIn_lst w gs
  rw [decide_eq_false hn] at c2
  refine Eq.trans (sSeq_nx (Eq.trans (sIf_f (tVal_ok (e2_ok (x := .str (S w)) (y := .lst (stL gs)) rfl rfl c2))) rfl)) ?_
  exact sApp_ok (l := stL gs) (d := .str (S w)) rfl rfl (by rw [stL_len]; exact Nat.lt_of_lt_of_le hg (small_le (Nat.le_refl _))) (by rw [stL_app]; rfl)
theorem decl_ok {s s1 s2 nd sd : D} {ns ss : List (List Nat)} (hn : Lt nd (stL ns)) (hs : Lt sd (stL ss)) (hw : ∀ w ∈ ns ++ ss, isW w = true ∧ w.length ≤ 1000) (nd' : (ns ++ ss).Nodup) (hl : (ns ++ ss).length < 1000)
    (p1 : putF "names" (.tup (stL ns)) s = some s1) (p2 : putF "statics" (.tup (stL ss)) s1 = some s2) :
    ∃ ρ, b_Declaring_init [some (.slf s), some (.val nd), some (.val sd), none, none] = .ok (.nx (some (.slf s2) :: ρ)) := by
  unfold b_Declaring_init
  refine ⟨[some (.val nd), some (.val sd), some (.own (.lst (stL (ns ++ ss)))), none], ?_⟩
  refine Eq.trans (sSeq_nx (sOwn_ok (d := .lst []) rfl rfl)) ?_
  have loop := forL_st (g := gVar 4) (cl := [4]) (b := b_Declaring_init_1) (fun i => [some (.slf s), some (.val nd), some (.val sd), some (.own (.lst (stL ((ns ++ ss).take i)))), none]) (stL (ns ++ ss)) (fun i d hd => by
    obtain ⟨w, e, rfl⟩ := stL_get hd
    obtain ⟨hi, e'⟩ := List.getElem?_eq_some_iff.mp e
    have hm := List.mem_of_getElem? e
    have ht : w ∉ (ns ++ ss).take i := fun z => by
      obtain ⟨j, hj, ej⟩ := List.mem_iff_getElem.mp z
      rw [List.length_take] at hj
      rw [List.getElem_take] at ej
      have := (List.getElem_inj (h₀ := by omega) (h₁ := hi) nd').mp (ej.trans e'.symm)
      omega
    refine ⟨_, .inl (decl_step s nd sd w _ (hw w hm).1 (hw w hm).2 (by rw [List.length_take]; omega) ht), ?_⟩
    have : (ns ++ ss).take (i + 1) = (ns ++ ss).take i ++ [w] := by rw [List.take_succ, e]; rfl
    show [some (Slot.slf s), some (.val nd), some (.val sd), some (.own (.lst (stL ((ns ++ ss).take i ++ [w])))), none] = _
    rw [this])
  rw [stL_len, List.take_length] at loop
  have ea : oAdd (.lst (stL ns)) (.lst (stL ss)) = some (.lst (stL (ns ++ ss))) := by
    show (if (stL ns).length + (stL ss).length ≤ lineD then some (D.lst (stL ns ++ stL ss)) else none) = _
    rw [List.length_append] at hl
    rw [stL_len, stL_len, if_pos (small_le (by omega)), stL_app]
  refine Eq.trans (sSeq_nx (Eq.trans (sFor_ok (iOf_ok (d := .lst (stL (ns ++ ss))) (e2_ok (e1_ok (x := nd) rfl hn.list) (e1_ok (x := sd) rfl hs.list) ea) rfl)) loop)) ?_
  refine Eq.trans (sSeq_nx (sFld_ok (s := s) rfl (e1_ok (x := nd) rfl hn.tuple) p1 rfl)) ?_
  exact sFld_ok (s := s1) rfl (e1_ok (x := sd) rfl hs.tuple) p2 rfl
theorem putF_ok {f : Str} {v : D} {c : String} {ks : List Str} {vs : List D} (h : ks.length < 999) (k : f ∈ fldOf c) : putF f v (.obj c ks vs) = some (.obj c (putDk f ks) (putDv f v ks vs)) := if_pos ⟨h, k⟩
end Tw

namespace Tw
open PySem
section
variable {ρ : DEnv} {a b : DE} {as ks : DA} {c : String} {f : List D → R D} {i : Nat} {x y : D} {o : Option Slot}
def rmS (c : String) (f : List D → R D) (x y : D) : R D := match y with
  | .obj c' ks vs => if c' = c then (f [.obj c' ks vs, x]).bind fun r => match r with | .bl b => .ok (.bl b) | _ => .no else .no
  | _ => .no
def rmnS (c : String) (f : List D → R D) (x y : D) : R D := match y with
  | .obj c' ks vs => if c' = c then (f [.obj c' ks vs, x]).bind fun r => match r with | .bl b => .ok (.bl (!b)) | _ => .no else .no
  | _ => .no
theorem q_rm : eRM c f a b ρ = (a ρ).bind fun x => (b ρ).bind fun y => rmS c f x y := rfl
theorem q_rmn : eRMn c f a b ρ = (a ρ).bind fun x => (b ρ).bind fun y => rmnS c f x y := rfl
def blS (r : D) : R D := match r with | .bl b => .ok (.bl b) | _ => .no
def nblS (r : D) : R D := match r with | .bl b => .ok (.bl (!b)) | _ => .no
theorem bl_b {k : Bool} : blS (.bl k) = .ok (.bl k) := rfl
theorem nbl_b {k : Bool} : nblS (.bl k) = .ok (.bl (!k)) := rfl
theorem rm_o {ks : List Str} {vs : List D} : rmS c f x (.obj c ks vs) = (f [.obj c ks vs, x]).bind blS := if_pos rfl
theorem rmn_o {ks : List Str} {vs : List D} : rmnS c f x (.obj c ks vs) = (f [.obj c ks vs, x]).bind nblS := if_pos rfl
def opS (c : String) (cs : List String) (f : List D → R D) (x y : D) : R D := match x, y with
  | .obj c1 ks vs, .obj c2 ks2 vs2 => if c1 = c ∧ c2 ∈ cs then f [.obj c1 ks vs, .obj c2 ks2 vs2] else .no
  | _, _ => .no
theorem q_op {cs : List String} : eOp c cs f a b ρ = (a ρ).bind fun x => (b ρ).bind fun y => opS c cs f x y := rfl
theorem op_o {c2 : String} {ks ks2 : List Str} {vs vs2 : List D} : opS c [c2] f (.obj c ks vs) (.obj c2 ks2 vs2) = f [.obj c ks vs, .obj c2 ks2 vs2] := if_pos ⟨rfl, List.mem_cons_self⟩
def ixoS (c : String) (f : List D → R D) (x y : D) : R D := match x with
  | .obj c' ks vs => if c' = c then f [.obj c' ks vs, y] else .no
  | _ => .no
theorem q_ixo : eIxO c f a b ρ = (a ρ).bind fun x => (b ρ).bind fun y => ixoS c f x y := rfl
theorem ixo_o {ks : List Str} {vs : List D} : ixoS c f (.obj c ks vs) y = f [.obj c ks vs, y] := if_pos rfl
theorem q_iown {fl : Str} : iOwn c fl a ρ = (a ρ).bind fun x => R.of (itO c fl x) := rfl
theorem ito_o {fl : Str} {ks : List Str} {vs : List D} : itO c fl (.obj c ks vs) = match lookD ks vs fl with | some (.lst l) => some l | _ => none := if_pos rfl
def mkS (n m : Nat) (cn : String) (gD : List D → List D → List D) (init : D → List D → R (D × D)) (xs ys : List D) : R D := if xs.length = n ∧ ys.length = m then mkD cn init (gD xs ys) else .no
theorem q_mkk {n m : Nat} {cn : String} {gD : List D → List D → List D} {init : D → List D → R (D × D)} : eMkK n m cn gD init as ks ρ = (as ρ).bind fun xs => (ks ρ).bind fun ys => mkS n m cn gD init xs ys := rfl
theorem mk_3 {cn : String} {gD : List D → List D → List D} {init : D → List D → R (D × D)} {p q r s : D} : mkS 1 3 cn gD init [p] [q, r, s] = mkD cn init (gD [p] [q, r, s]) := if_pos ⟨rfl, rfl⟩
theorem mk_2 {cn : String} {gD : List D → List D → List D} {init : D → List D → R (D × D)} {p q r : D} : mkS 1 2 cn gD init [p] [q, r] = mkD cn init (gD [p] [q, r]) := if_pos ⟨rfl, rfl⟩
theorem mk_1 {cn : String} {gD : List D → List D → List D} {init : D → List D → R (D × D)} {p q : D} : mkS 1 1 cn gD init [p] [q] = mkD cn init (gD [p] [q]) := if_pos ⟨rfl, rfl⟩
theorem g_3 {p q r s : D} : gDr3 [p] [q, r, s] = [p, q, r, s] := rfl
theorem g_2 {p q r : D} : gDr2 [p] [q, r] = [p, q, r, .tup []] := rfl
theorem g_1 {p q : D} : gDr1 [p] [q] = [p, q, .tup [], .tup []] := rfl
theorem q_clm : eClm c f as ρ = (as ρ).bind fun xs => f (.cls c :: xs) := rfl
def clsS (c : String) (init : D → List D → R (D × D)) (as : DA) (ρ : DEnv) (o : Option Slot) : R D := match o with
  | some (.val (.cls c')) => if c' = c then (as ρ).bind (mkD c init) else .no
  | _ => .no
theorem q_cls {init : D → List D → R (D × D)} : eCls c init i as ρ = clsS c init as ρ (getO i ρ) := by
  unfold eCls clsS getO
  cases h : ρ[i]? with
  | none => rfl
  | some o => cases o with
    | none => rfl
    | some o => cases o with
      | val d => cases d <;> rfl
      | _ => rfl
theorem cls_o {init : D → List D → R (D × D)} : clsS c init as ρ (some (.val (.cls c))) = (as ρ).bind (mkD c init) := if_pos rfl
def mkE (p : D × D) : R D := match p.1 with
  | .non => .ok p.2
  | _ => .no
theorem q_mkd {init : D → List D → R (D × D)} {ds : List D} : mkD c init ds = (init (.obj c [] []) ds).bind mkE := by
  unfold mkD mkE
  cases init (.obj c [] []) ds with
  | ok p => cases p with | mk a b => cases a <;> rfl
  | ex e => rfl
  | no => rfl
theorem mke_n : mkE (.non, x) = .ok x := rfl
def iniS (i : Nat) (f : D → List D → R (D × D)) (as : DA) (ρ : DEnv) (o : Option Slot) : R Out := match o with
  | some (.slf (.obj c ks l)) => (as ρ).st ρ fun xs => if noGst l then (match f (.obj c ks l) xs with
    | .ok p => .ok (.nx (ρ.set i (some (.slf p.2))))
    | .ex e => .ok (.xx e (ρ.map fun _ => none))
    | .no => .no) else .no
  | _ => .no
theorem q_ini {h : D → List D → R (D × D)} : sInitC i h as ρ = iniS i h as ρ (getO i ρ) := by
  unfold sInitC iniS getO
  cases e : ρ[i]? with
  | none => rfl
  | some o => cases o with
    | none => rfl
    | some o => cases o with
      | slf d => cases d <;> rfl
      | _ => rfl
def iniE (i : Nat) (ρ : DEnv) (r : R (D × D)) : R Out := match r with
  | .ok p => .ok (.nx (ρ.set i (some (.slf p.2))))
  | .ex e => .ok (.xx e (ρ.map fun _ => none))
  | .no => .no
theorem ini_o {h : D → List D → R (D × D)} {ks : List Str} {l : List D} (hn : noGst l = true) : iniS i h as ρ (some (.slf (.obj c ks l))) = (as ρ).st ρ fun xs => iniE i ρ (h (.obj c ks l) xs) := by
  unfold iniS iniE
  simp only [hn, if_true]
theorem inie_ok {p : D × D} : iniE i ρ (.ok p) = .ok (.nx (ρ.set i (some (.slf p.2)))) := rfl
theorem inie_ex {e : Ex} : iniE i ρ (.ex e) = .ok (.xx e (ρ.map fun _ => none)) := rfl
theorem ng_n : noGst [] = true := id rfl
theorem ng_s {s : Str} {l : List D} : noGst (.str s :: l) = noGst l := id rfl
theorem ng_t {m l : List D} : noGst (.tup m :: l) = noGst l := id rfl
theorem ng_b {k : Bool} {l : List D} : noGst (.bl k :: l) = noGst l := id rfl
def ngs := And.intro @ng_n <| And.intro @ng_s <| And.intro @ng_t @ng_b
end
def ev := And.intro @q_seq <| And.intro @sq_nx <| And.intro @sq_rt <| And.intro @sq_bk <| And.intro @sq_ct <| And.intro @sq_xx <| And.intro @q_next <| And.intro @q_brk <| And.intro @q_cnt <| And.intro @ite_t <| And.intro @ite_f <| And.intro @q_if <| And.intro @v_z <| And.intro @v_s <| And.intro @k_zv <| And.intro @k_zo <| And.intro @k_s <| And.intro @st_zn <| And.intro @st_zv <| And.intro @st_zo <| And.intro @so_zn <| And.intro @so_zv <| And.intro @so_zo <| And.intro @cr_ok <| And.intro @st_s <| And.intro @so_s <| And.intro @fz_zo <| And.intro @fz_zv <| And.intro @fz_zn <| And.intro @fz_s <| And.intro @cl_zo <| And.intro @cl_zv <| And.intro @cl_zn <| And.intro @cl_s <| And.intro @cd_n <| And.intro @cd_c <| And.intro @fl_n <| And.intro @fl_c <| And.intro @q_frz <| And.intro @q_clr <| And.intro @wp_n <| And.intro @wp_c <| And.intro @ow_n <| And.intro @ow_c <| And.intro @o1_zn <| And.intro @o1_zv <| And.intro @o1_s <| And.intro @t_z <| And.intro @t_s <| And.intro @q_c <| And.intro @q_e1 <| And.intro @q_e2 <| And.intro @q_an <| And.intro @q_ac <| And.intro @q_call <| And.intro @q_meth <| And.intro @m_obj <| And.intro @m_obj2 <| And.intro @m_obj3 <| And.intro @q_tup <| And.intro @q_lst <| And.intro @sS0 <| And.intro @sS1 <| And.intro @sS2 <| And.intro @sS3 <| And.intro @sS4 <| And.intro @sS5 <| And.intro @sS6 <| And.intro @sS7 <| And.intro @sS8 <| And.intro @q_ife <| And.intro @ie_t <| And.intro @ie_f <| And.intro @q_and <| And.intro @q_or <| And.intro @q_not <| And.intro @ae_t <| And.intro @ae_f <| And.intro @oe_t <| And.intro @oe_f <| And.intro @ne_k <| And.intro @q_xn <| And.intro @q_xs <| And.intro @xi_i <| And.intro @q_sl <| And.intro @q_tv <| And.intro @tv_b <| And.intro @q_tt <| And.intro @q_ta <| And.intro @q_to <| And.intro @q_tn <| And.intro @at_t <| And.intro @at_f <| And.intro @ot_t <| And.intro @ot_f <| And.intro @q_ty <| And.intro @q_set <| And.intro @q_own <| And.intro @q_asg <| And.intro @q_drop <| And.intro @q_ret <| And.intro @q_retn <| And.intro @go_z <| And.intro @go_s <| And.intro @q_app <| And.intro @ap_l <| And.intro @lt_ok <| And.intro @q_clear <| And.intro @cs_l <| And.intro @q_aug <| And.intro @au_v <| And.intro @q_fld <| And.intro @fs_s <| And.intro @q_for <| And.intro @lp_nx <| And.intro @lp_ct <| And.intro @lp_bk <| And.intro @lp_rt <| And.intro @lp_xx <| And.intro @f_n <| And.intro @g_v <| And.intro @g_t <| And.intro @g_vn <| And.intro @g_vc <| And.intro @q_io <| And.intro @q_ir <| And.intro @rg_n <| And.intro @q_comp <| And.intro @fd_rt <| And.intro @fd_nx <| And.intro @fd_xx <| And.intro @fi_nx <| And.intro @fi_rt <| And.intro @fi_xx <| And.intro @p_add <| And.intro @p_sub <| And.intro @p_adds <| And.intro @p_addl <| And.intro @p_addt <| And.intro @p_mod <| And.intro @p_fdiv <| And.intro @p_lt <| And.intro @p_le <| And.intro @p_gt <| And.intro @p_ge <| And.intro @p_eqi <| And.intro @p_nei <| And.intro @p_eqs <| And.intro @p_nes <| And.intro @p_eqb <| And.intro @p_neb <| And.intro @p_int <| And.intro @p_intb <| And.intro @p_neg <| And.intro @p_lenl <| And.intro @p_lent <| And.intro @p_lenc <| And.intro @p_lens <| And.intro @p_listl <| And.intro @p_listt <| And.intro @p_tupl <| And.intro @p_tupt <| And.intro @p_max <| And.intro @p_isn <| And.intro @p_isnn <| And.intro @p_ixl <| And.intro @p_ixt <| And.intro @p_ixc <| And.intro @p_ixd <| And.intro @p_fld <| And.intro @p_at0 <| And.intro @p_at1 <| And.intro @p_atn <| And.intro @p_trub <| And.intro @p_trul <| And.intro @p_trut <| And.intro @p_trun <| And.intro @p_itl <| And.intro @p_itt <| And.intro @p_isib <| And.intro @p_isit <| And.intro @p_isil <| And.intro @p_isis <| And.intro @p_isii <| And.intro @p_isibi <| And.intro @b_tt <| And.intro @b_ff <| And.intro @b_tf <| And.intro @b_ft <| And.intro @nt_t <| And.intro @nt_f <| And.intro @q_rm <| And.intro @q_rmn <| And.intro @bl_b <| And.intro @nbl_b <| And.intro @rm_o <| And.intro @rmn_o <| And.intro @q_op <| And.intro @op_o <| And.intro @q_ixo <| And.intro @ixo_o <| And.intro @q_iown <| And.intro @ito_o <| And.intro @q_mkk <| And.intro @mk_3 <| And.intro @mk_2 <| And.intro @mk_1 <| And.intro @g_3 <| And.intro @g_2 <| And.intro @g_1 <| And.intro @q_clm <| And.intro @q_cls <| And.intro @cls_o <| And.intro @mke_n <| And.intro @q_ini <| And.intro @ini_o <| And.intro @inie_ok <| And.intro @inie_ex <| And.intro @ng_n <| And.intro @ng_s <| And.intro @ng_t @ng_b
end Tw

set_option maxHeartbeats 2000000
namespace Tw
open PySem
abbrev Wd := List Nat
theorem isW_len {w : Wd} (h : isW w = true) : w.length ≤ 8 := by
  cases w with
  | nil => exact Nat.zero_le _
  | cons c l =>
    rw [show isW (c :: l) = (decide (l.length < 8) && isL c && (c :: l).all isLD) from rfl] at h
    have := of_decide_eq_true (Bool.and_eq_true_iff.mp (Bool.and_eq_true_iff.mp h).1).1
    exact this
theorem isw_ok {w : Wd} (h : isW w = true) : d_Titled_is_word [.str (S w)] = .ok (.bl true) := by
  rw [is_word_ok w (by have := isW_len h; omega), h]
theorem putN {f : Str} {c : String} {ks : List Str} {vs : List D} {v : D} (h1 : f ∈ fldOf c) (h2 : f ∉ ks) (h3 : ks.length < 999) (h4 : ks.length = vs.length) : putF f v (.obj c ks vs) = some (.obj c (ks ++ [f]) (vs ++ [v])) := by
  have k1 : ∀ ks : List Str, f ∉ ks → putDk f ks = ks ++ [f] := by
    intro ks
    induction ks with
    | nil => intro _; rfl
    | cons k ks ih =>
      intro h
      unfold putDk
      rw [if_neg (fun z => h (by rw [z]; exact List.mem_cons_self)), ih fun z => h (List.mem_cons_of_mem _ z)]
      rfl
  have k2 : ∀ (ks : List Str) (vs : List D), f ∉ ks → ks.length = vs.length → putDv f v ks vs = vs ++ [v] := by
    intro ks
    induction ks with
    | nil => intro vs _ e; cases vs <;> simp_all [putDv]
    | cons k ks ih =>
      intro vs h e
      cases vs with
      | nil => simp at e
      | cons u vs =>
        unfold putDv
        rw [if_neg (fun z => h (by rw [z]; exact List.mem_cons_self)), ih vs (fun z => h (List.mem_cons_of_mem _ z)) (by simpa using e)]
        rfl
  rw [putF_ok h3 h1, k1 ks h2, k2 ks vs h2 h4]
theorem put0 {f : Str} {c : String} {v : D} (h1 : f ∈ fldOf c) : putF f v (.obj c [] []) = some (.obj c [f] [v]) := putN h1 (by simp) (by decide) rfl
theorem put1 {f k : Str} {c : String} {v a : D} (h1 : f ∈ fldOf c) (h2 : f ∉ [k]) : putF f v (.obj c [k] [a]) = some (.obj c [k, f] [a, v]) := putN h1 h2 (by simp) rfl
theorem put3 {f k1 k2 k3 : Str} {c : String} {v a1 a2 a3 : D} (h1 : f ∈ fldOf c) (h2 : f ∉ [k1, k2, k3]) : putF f v (.obj c [k1, k2, k3] [a1, a2, a3]) = some (.obj c [k1, k2, k3, f] [a1, a2, a3, v]) := putN h1 h2 (by simp) rfl
theorem look_h {k : Str} {ks : List Str} {v : D} {vs : List D} : lookD (k :: ks) (v :: vs) k = some v := if_pos rfl
theorem look_t {x k : Str} {ks : List Str} {v : D} {vs : List D} (h : x ≠ k) : lookD (k :: ks) (v :: vs) x = lookD ks vs x := if_neg h
theorem titled_ok {c : String} {w : Wd} (hc : Str.ofString "title" ∈ fldOf c) (hw : isW w = true) : d_Titled_init (.obj c [] []) [.str (S w)] = .ok (.non, .obj c ["title"] [.str (S w)]) := by
  rw [e_Titled_init]
  unfold b_Titled_init
  simp -implicitDefEqProofs (disch := (first | assumption | omega | (simp only [ngs]; done) | decide)) only [ev, R.bind_ok, R.bind_ex, R.st_ok, R.st_ex, R.of_some, List.length_map, isw_ok hw, put0 hc, slfP, noGst, if_true]
/-- a direct base: its title, whether it is shared -/
abbrev BS := Wd × Bool
def bD (b : BS) : D := .obj "Base" ["title", "is_shared"] [.str (S b.1), .bl b.2]
theorem base_ok {w : Wd} {b : Bool} (hw : isW w = true) : d_Base_init (.obj "Base" [] []) [.str (S w), .bl b] = .ok (.non, bD (w, b)) := by
  rw [e_Base_init]
  unfold b_Base_init
  simp -implicitDefEqProofs (disch := (first | assumption | omega | (simp only [ngs]; done) | decide)) only [ev, R.bind_ok, R.bind_ex, R.st_ok, R.st_ex, R.of_some, List.length_map, titled_ok (c := "Base") (by decide +kernel) hw, put1 (c := "Base") (f := "is_shared") (k := "title") (by decide +kernel) (by decide +kernel), slfP, noGst, if_true, bD]
theorem mkbase_ok {w : Wd} {b : Bool} (hw : isW w = true) : mkD "Base" d_Base_init [.str (S w), .bl b] = .ok (bD (w, b)) := by
  simp -implicitDefEqProofs (disch := (first | assumption | omega | (simp only [ngs]; done) | decide)) only [ev, R.bind_ok, R.bind_ex, R.st_ok, R.st_ex, R.of_some, List.length_map, q_mkd, base_ok hw]
/-- Declaring's part of an object -/
theorem declI_ok {c : String} {ks : List Str} {vs : List D} {nd sd : D} {ns ss : List Wd} (hc : Str.ofString "names" ∈ fldOf c ∧ Str.ofString "statics" ∈ fldOf c) (h2 : Str.ofString "names" ∉ ks ∧ Str.ofString "statics" ∉ ks) (h3 : ks.length < 900) (h4 : ks.length = vs.length) (hg : noGst (vs ++ [.tup (stL ns), .tup (stL ss)]) = true)
    (hn : Lt nd (stL ns)) (hs : Lt sd (stL ss)) (hw : ∀ w ∈ ns ++ ss, isW w = true) (nd' : (ns ++ ss).Nodup) (hl : (ns ++ ss).length < 1000) :
    d_Declaring_init (.obj c ks vs) [nd, sd] = .ok (.non, .obj c (ks ++ [Str.ofString "names", Str.ofString "statics"]) (vs ++ [.tup (stL ns), .tup (stL ss)])) := by
  have p1 : putF "names" (.tup (stL ns)) (.obj c ks vs) = some (.obj c (ks ++ [Str.ofString "names"]) (vs ++ [.tup (stL ns)])) := putN hc.1 h2.1 (by omega) h4
  have p2 : putF "statics" (.tup (stL ss)) (.obj c (ks ++ [Str.ofString "names"]) (vs ++ [.tup (stL ns)])) = some (.obj c (ks ++ [Str.ofString "names", Str.ofString "statics"]) (vs ++ [.tup (stL ns), .tup (stL ss)])) := by
    rw [putN hc.2 (by
      intro z
      rcases List.mem_append.mp z with z | z
      · exact h2.2 z
      · exact absurd z (by decide +kernel)) (by simp; omega) (by simp [h4])]
    simp
  obtain ⟨ρ, e⟩ := decl_ok hn hs (fun w hw' => ⟨hw w hw', by have := isW_len (hw w hw'); omega⟩) nd' hl p1 p2
  rw [e_Declaring_init, e]
  simp -implicitDefEqProofs (disch := (first | assumption | omega | (simp only [ngs]; done) | decide)) only [ev, R.bind_ok, R.bind_ex, R.st_ok, R.st_ex, R.of_some, List.length_map, slfP, hg, if_true]
structure Dr where
  t : Wd
  ns : List Wd
  ss : List Wd
  bs : List BS
def drD (r : Dr) : D := .obj "Draft" ["title", "names", "statics", "bases"] [.str (S r.t), .tup (stL r.ns), .tup (stL r.ss), .tup (r.bs.map bD)]
structure DrOk (r : Dr) : Prop where
  t : isW r.t = true
  w : ∀ w ∈ r.ns ++ r.ss, isW w = true
  nd : (r.ns ++ r.ss).Nodup
  nl : (r.ns ++ r.ss).length < 1000
  bd : (r.bs.map Prod.fst).Nodup
  bw : ∀ b ∈ r.bs, isW b.1 = true
  bl : r.bs.length < 1000
theorem bD_title (b : BS) : oFld "title" (bD b) = some (.str (S b.1)) := rfl
theorem bD_sh (b : BS) : oFld "is_shared" (bD b) = some (.bl b.2) := by
  rw [bD, p_fld, look_t (by decide +kernel), look_h]
theorem draft_loop (o0 o1 o2 o3 o4 : Option Slot) : ∀ (bs : List BS) (gs : List Wd), ((gs ++ bs.map Prod.fst).Nodup) → gs.length + bs.length < 1000 →
    forL (gVar 6) [6] b_Draft_init_1 (bs.map bD) [o0, o1, o2, o3, o4, some (.own (.lst (stL gs))), none] = .ok (.nx [o0, o1, o2, o3, o4, some (.own (.lst (stL (gs ++ bs.map Prod.fst)))), none])
  | [], gs, _, _ => by rw [List.map_nil, List.map_nil, List.append_nil]; rfl
  | b :: bs, gs, h, hl => by
    have hn : b.1 ∉ gs := fun z => by
      rw [List.map_cons, List.nodup_append] at h
      exact h.2.2 _ z _ List.mem_cons_self rfl
    have e1 := oIn_lst b.1 gs
    rw [decide_eq_false hn] at e1
    have h' : (gs ++ [b.1] ++ bs.map Prod.fst).Nodup := by rw [List.append_assoc]; exact h
    have ih := draft_loop o0 o1 o2 o3 o4 bs (gs ++ [b.1]) h' (by simp at hl ⊢; omega)
    simp only [List.length_cons] at hl
    have ll : (stL gs).length < 1000000 := by rw [stL_len]; omega
    have e2 : stL gs ++ [.str (S b.1)] = stL (gs ++ [b.1]) := by rw [stL_app]; rfl
    have st : b_Draft_init_1 [o0, o1, o2, o3, o4, some (.own (.lst (stL gs))), some (.val (bD b))] = .ok (.nx [o0, o1, o2, o3, o4, some (.own (.lst (stL (gs ++ [b.1])))), some (.val (bD b))]) := by
      unfold b_Draft_init_1
      simp -implicitDefEqProofs (disch := (first | assumption | omega | (simp only [ngs]; done) | decide)) only [ev, R.bind_ok, R.bind_ex, R.st_ok, R.st_ex, R.of_some, List.length_map, bD_title, e1, e2]
    rw [List.map_cons, f_c]
    simp -implicitDefEqProofs (disch := (first | assumption | omega | (simp only [ngs]; done) | decide)) only [ev, R.bind_ok, R.bind_ex, R.st_ok, R.st_ex, R.of_some, List.length_map, st, ih]
    rw [List.map_cons, List.append_assoc]
    rfl
theorem drInit_ok {r : Dr} {nd sd bd : D} (h : DrOk r) (hn : Lt nd (stL r.ns)) (hs : Lt sd (stL r.ss)) (hb : Lt bd (r.bs.map bD)) : d_Draft_init (.obj "Draft" [] []) [.str (S r.t), nd, sd, bd] = .ok (.non, drD r) := by
  rw [e_Draft_init]
  unfold b_Draft_init
  have e1 := declI_ok (c := "Draft") (ks := ["title"]) (vs := [.str (S r.t)]) (nd := nd) (sd := sd) (by decide +kernel) (by decide +kernel) (by decide) rfl rfl hn hs h.w h.nd h.nl
  have hi : iterD bd = some (r.bs.map bD) := by rcases hb with rfl | rfl <;> rfl
  have lp := fun o0 o1 o2 o3 o4 => draft_loop o0 o1 o2 o3 o4 r.bs [] (by simpa using h.bd) (by simpa using h.bl)
  rw [show stL [] = [] from rfl] at lp
  simp -implicitDefEqProofs (disch := (first | assumption | omega | (simp only [ngs]; done) | decide)) only [ev, R.bind_ok, R.bind_ex, R.st_ok, R.st_ex, R.of_some, List.length_map, titled_ok (c := "Draft") (by decide +kernel) h.t, e1, List.cons_append, List.nil_append, hi, lp, hb.tuple, put3 (c := "Draft") (f := "bases") (k1 := "title") (k2 := "names") (k3 := "statics") (by decide +kernel) (by decide +kernel), slfP, noGst, if_true, drD]
theorem mkdr_ok {r : Dr} {nd sd bd : D} (h : DrOk r) (hn : Lt nd (stL r.ns)) (hs : Lt sd (stL r.ss)) (hb : Lt bd (r.bs.map bD)) : mkD "Draft" d_Draft_init [.str (S r.t), nd, sd, bd] = .ok (drD r) := by
  simp -implicitDefEqProofs (disch := (first | assumption | omega | (simp only [ngs]; done) | decide)) only [ev, R.bind_ok, R.bind_ex, R.st_ok, R.st_ex, R.of_some, List.length_map, q_mkd, drInit_ok h hn hs hb]
theorem drD_t (r : Dr) : oFld "title" (drD r) = some (.str (S r.t)) := rfl
theorem drD_n (r : Dr) : oFld "names" (drD r) = some (.tup (stL r.ns)) := by
  rw [drD, p_fld, look_t (by decide +kernel), look_h]
theorem drD_s (r : Dr) : oFld "statics" (drD r) = some (.tup (stL r.ss)) := by
  rw [drD, p_fld, look_t (by decide +kernel), look_t (by decide +kernel), look_h]
theorem drD_b (r : Dr) : oFld "bases" (drD r) = some (.tup (r.bs.map bD)) := by
  rw [drD, p_fld, look_t (by decide +kernel), look_t (by decide +kernel), look_t (by decide +kernel), look_h]
end Tw

set_option maxHeartbeats 2000000
namespace Tw
open PySem
structure CL where
  r : Dr
  ab : List Wd
  sh : List Wd
/-- d shows the draft r -/
structure DLike (d : D) (r : Dr) : Prop where
  t : oFld "title" d = some (.str (S r.t))
  n : oFld "names" d = some (.tup (stL r.ns))
  s : oFld "statics" d = some (.tup (stL r.ss))
  b : oFld "bases" d = some (.tup (r.bs.map bD))
def ttl (L : List CL) : List Wd := L.map fun c => c.r.t
def fnd (L : List CL) (x : Wd) : Option CL := L.find? fun c => c.r.t == x
def abOf (L : List CL) (x : Wd) : List Wd := match fnd L x with | some k => k.ab | none => []
def shOf (L : List CL) (x : Wd) : List Wd := match fnd L x with | some k => k.sh | none => []
/-- what the bases bs bring above -/
def inAb (L : List CL) (bs : List BS) (x : Wd) : Prop := ∃ b ∈ bs, x = b.1 ∨ x ∈ abOf L b.1
def inSh (L : List CL) (bs : List BS) (x : Wd) : Prop := ∃ b ∈ bs, (b.2 = true ∧ x = b.1) ∨ x ∈ shOf L b.1
instance (L : List CL) (bs : List BS) (x : Wd) : Decidable (inAb L bs x) := by unfold inAb; infer_instance
instance (L : List CL) (bs : List BS) (x : Wd) : Decidable (inSh L bs x) := by unfold inSh; infer_instance
def mkCL (L : List CL) (r : Dr) : CL := ⟨r, (ttl L).filter fun x => decide (inAb L r.bs x), (ttl L).filter fun x => decide (inSh L r.bs x)⟩
end Tw

set_option maxHeartbeats 2000000
namespace Tw
open PySem
end Tw

set_option maxHeartbeats 2000000
namespace Tw
open PySem
/-- small enough -/
def Sm (L : List CL) : Prop := L.length ≤ 100 ∧ ∀ c ∈ L, c.ab.length ≤ 100 ∧ c.sh.length ≤ 100
theorem Sm.ab {L : List CL} (h : Sm L) (x : Wd) : (abOf L x).length ≤ 100 := by
  unfold abOf
  cases e : fnd L x with
  | none => exact Nat.zero_le _
  | some k => exact (h.2 k (List.mem_of_find?_eq_some e)).1
theorem Sm.sh {L : List CL} (h : Sm L) (x : Wd) : (shOf L x).length ≤ 100 := by
  unfold shOf
  cases e : fnd L x with
  | none => exact Nat.zero_le _
  | some k => exact (h.2 k (List.mem_of_find?_eq_some e)).2
end Tw

set_option maxHeartbeats 2000000
namespace Tw
open PySem
theorem Sm.snoc {L : List CL} {r : Dr} (h : Sm L) (hl : L.length < 100) : Sm (L ++ [mkCL L r]) := by
  have ht : (ttl L).length = L.length := by unfold ttl; rw [List.length_map]
  refine ⟨by rw [List.length_append, List.length_singleton]; omega, fun c hc => ?_⟩
  rcases List.mem_append.mp hc with hc | hc
  · exact h.2 c hc
  · rw [List.mem_singleton.mp hc]
    have l1 := List.length_filter_le (fun x => decide (inAb L r.bs x)) (ttl L)
    have l2 := List.length_filter_le (fun x => decide (inSh L r.bs x)) (ttl L)
    exact ⟨by show ((ttl L).filter fun x => decide (inAb L r.bs x)).length ≤ 100; omega, by show ((ttl L).filter fun x => decide (inSh L r.bs x)).length ≤ 100; omega⟩
/-- the drafts rs, as they are given -/
inductive DLs : List D → List Dr → Prop
  | nil : DLs [] []
  | cons {d : D} {r : Dr} {ds : List D} {rs : List Dr} : DLike d r → d = d → DLs ds rs → DLs (d :: ds) (r :: rs)
end Tw

set_option maxHeartbeats 2000000
namespace Tw
open PySem
abbrev Lnk := Nat × Bool
structure Pn where
  ls : List Lnk
  ms : List Int
structure PnOk (j m : Nat) (p : Pn) : Prop where
  lt : ∀ l ∈ p.ls, l.1 < j
  nd : (p.ls.map Prod.fst).Nodup
  ml : p.ms.length = m
  mb : ∀ x ∈ p.ms, x = 0 ∨ x = 1 ∨ x = 2
def PlanOk (m : Nat) (P : List Pn) : Prop := ∀ j p, P[j]? = some p → PnOk j m p
theorem PlanOk.nil {m : Nat} : PlanOk m [] := fun j p h => by simp at h
theorem PlanOk.snoc {m : Nat} {P : List Pn} {p : Pn} (h : PlanOk m P) (k : PnOk P.length m p) : PlanOk m (P ++ [p]) := fun j q e => by
  by_cases hj : j < P.length
  · rw [List.getElem?_append_left hj] at e; exact h j q e
  · rw [List.getElem?_append_right (by omega)] at e
    have : j - P.length = 0 := by
      rcases Nat.eq_zero_or_pos (j - P.length) with h0 | h0
      · exact h0
      · rw [List.getElem?_eq_none (by simp; omega)] at e; cases e
    rw [this] at e
    have e : p = q := by simpa using e
    have hj : j = P.length := by omega
    subst e; subst hj
    exact k
theorem at_eq {α : Type} {l : List α} {i : Int} {n : Nat} {x : α} (h : l[n]? = some x) (e : i = n) : atD l i = some x := by
  subst e; rw [p_atn]; exact h
theorem at_1 {α : Type} {x y : α} {l : List α} : atD (x :: y :: l) 1 = some y := rfl
theorem mapG {α : Type} {f : α → D} {l : List α} {n : Nat} {x : α} (h : l[n]? = some x) : (l.map f)[n]? = some (f x) := by rw [List.getElem?_map, h]; rfl
theorem getD_some {l : List Int} {k : Nat} (h : k < l.length) : l[k]? = some (l.getD k 0) := by
  rw [List.getD_eq_getElem?_getD, List.getElem?_eq_getElem h]; rfl
def m5 (r : Int) : Int := ([0, 0, 0, 1, 2] : List Int).getD r.toNat 0
theorem mul_lst {x : Int} {j : Nat} (h : j ≤ 1000) : oMul (.lst [.int x]) (.int j) = some (.lst ((List.replicate j x).map .int)) := by
  have g : -(2 ^ 63) ≤ (j : Int) ∧ (j : Int) < 2 ^ 63 ∧ [D.int x].length * (j : Int).toNat ≤ lineD := ⟨by omega, by omega, by
    rw [Int.toNat_natCast, List.length_singleton, Nat.one_mul]; exact Nat.le_trans h (by decide)⟩
  unfold oMul
  simp only [if_pos g, Int.toNat_natCast]
  rw [List.length_singleton, Nat.one_mul] at g ⊢
  rw [Int.toNat_natCast] at g
  rw [if_pos g]
  clear g h
  refine congrArg (fun x => some (D.lst x)) ?_
  induction j with
  | zero => rfl
  | succ n ih => rw [List.replicate_succ, List.flatten_cons, ih, List.replicate_succ]; rfl
theorem sl_from {l : List D} {i : Int} (h : 0 ≤ i) : oSl (some i) none (.lst l) = some (.lst (l.drop i.toNat)) := congrArg (fun x => some (D.lst x)) (cutD_from l i h)
theorem sl_to {l : List D} {i : Int} (h : 0 ≤ i) : oSl none (some i) (.lst l) = some (.lst (l.take i.toNat)) := congrArg (fun x => some (D.lst x)) (cutD_to l i h)
end Tw

set_option maxHeartbeats 2000000
namespace Tw
open PySem
theorem nodup_map_of {α β : Type} {f : α → β} : ∀ {l : List α}, (∀ a ∈ l, ∀ b ∈ l, f a = f b → a = b) → l.Nodup → (l.map f).Nodup
  | [], _, _ => List.nodup_nil
  | a :: l, h, n => by
    rw [List.map_cons]
    obtain ⟨n1, n2⟩ := List.nodup_cons.mp n
    refine List.nodup_cons.mpr ⟨fun z => ?_, nodup_map_of (fun x hx y hy => h x (List.mem_cons_of_mem _ hx) y (List.mem_cons_of_mem _ hy)) n2⟩
    obtain ⟨b, hb, e⟩ := List.mem_map.mp z
    exact n1 (h b (List.mem_cons_of_mem _ hb) a List.mem_cons_self e ▸ hb)
/-- words that differ -/
structure Wds (ws : List Wd) : Prop where
  w : ∀ w ∈ ws, isW w = true
  nd : ws.Nodup
  l : ws.length ≤ 100
theorem Wds.nil : Wds [] := ⟨fun _ h => (by cases h), List.nodup_nil, Nat.zero_le _⟩
theorem wgetD {ws : List Wd} {k : Nat} (h : k < ws.length) : ws[k]? = some (ws.getD k []) := by
  rw [List.getD_eq_getElem?_getD, List.getElem?_eq_getElem h]; rfl
theorem wmem {ws : List Wd} {k : Nat} (h : k < ws.length) : ws.getD k [] ∈ ws := List.mem_of_getElem? (wgetD h)
theorem stL_at {ws : List Wd} {k : Nat} (h : k < ws.length) : (stL ws)[k]? = some (.str (S (ws.getD k []))) := by
  unfold stL; rw [List.getElem?_map, wgetD h]; rfl
def pick (lb : List Wd) (ms : List Int) (v : Int) : List Wd := ((List.range lb.length).filter fun m => decide (ms.getD m 0 = v)).map fun m => lb.getD m []
def prDr (ws lb : List Wd) (j : Nat) (p : Pn) : Dr := ⟨ws.getD j [], pick lb p.ms 1, pick lb p.ms 2, p.ls.map fun l => (ws.getD l.1 [], l.2)⟩
theorem nd_len {α : Type} [BEq α] [LawfulBEq α] : ∀ {l m : List α}, l.Nodup → (∀ x ∈ l, x ∈ m) → l.length ≤ m.length
  | [], m, _, _ => Nat.zero_le _
  | a :: l, m, h, hs => by
    obtain ⟨h1, h2⟩ := List.nodup_cons.mp h
    have ha := hs a List.mem_cons_self
    have ih := nd_len (l := l) (m := m.erase a) h2 fun x hx => by
      have hne : x ≠ a := fun e => h1 (e ▸ hx)
      exact (List.mem_erase_of_ne hne).mpr (hs x (List.mem_cons_of_mem _ hx))
    have hl := List.length_erase_of_mem ha
    have hp := List.length_pos_of_mem ha
    rw [List.length_cons]
    omega
theorem PnOk.len {j m : Nat} {p : Pn} (h : PnOk j m p) : p.ls.length ≤ j := by
  have := nd_len (m := List.range j) h.nd fun x hx => by
    obtain ⟨l, hl, rfl⟩ := List.mem_map.mp hx
    exact List.mem_range.mpr (h.lt l hl)
  simpa using this
theorem DrOk.pre {r : Dr} {bs cs : List BS} (h : DrOk { r with bs := bs ++ cs }) : DrOk { r with bs := bs } := by
  refine ⟨h.t, h.w, h.nd, h.nl, ?_, fun b hb => h.bw b (List.mem_append_left _ hb), ?_⟩
  · have := h.bd
    simp only [List.map_append] at this
    exact (List.nodup_append.mp this).1
  · have := h.bl
    simp only [List.length_append] at this
    show bs.length < 1000
    omega
end Tw

set_option maxHeartbeats 2000000
namespace Tw
open PySem
def lks (P : List Pn) (j : Nat) : List Lnk := match P[j]? with | some p => p.ls | none => []
/-- x is above j -/
inductive Ab (P : List Pn) : Nat → Nat → Prop
  | base {j : Nat} {l : Lnk} : l ∈ lks P j → Ab P j l.1
  | step {j x : Nat} {l : Lnk} : l ∈ lks P j → Ab P l.1 x → Ab P j x
/-- x is a shared base of j -/
inductive Sh (P : List Pn) : Nat → Nat → Prop
  | base {j : Nat} {l : Lnk} : l ∈ lks P j → l.2 = true → Sh P j l.1
  | step {j x : Nat} {l : Lnk} : l ∈ lks P j → Sh P l.1 x → Sh P j x
section
variable {P : List Pn} {m : Nat} {j x : Nat}
theorem lks_lt (ho : PlanOk m P) {l : Lnk} (h : l ∈ lks P j) : l.1 < j := by
  unfold lks at h
  cases e : P[j]? with
  | none => rw [e] at h; cases h
  | some p => rw [e] at h; exact (ho j p e).lt l h
theorem Ab.lt (ho : PlanOk m P) (h : Ab P j x) : x < j := by
  induction h with
  | base h => exact lks_lt ho h
  | step h _ ih => have := lks_lt ho h; omega
theorem Sh.lt (ho : PlanOk m P) (h : Sh P j x) : x < j := by
  induction h with
  | base h _ => exact lks_lt ho h
  | step h _ ih => have := lks_lt ho h; omega
theorem Sh.ab (h : Sh P j x) : Ab P j x := by
  induction h with
  | base h _ => exact .base h
  | step h _ ih => exact .step h ih
end
noncomputable instance (P : List Pn) (j x : Nat) : Decidable (Ab P j x) := Classical.propDecidable _
noncomputable instance (P : List Pn) (j x : Nat) : Decidable (Sh P j x) := Classical.propDecidable _
noncomputable def shI (P : List Pn) (j : Nat) : List Nat := (List.range j).filter fun x => decide (Sh P j x)
def wmap (ws : List Wd) (l : List Nat) : List Wd := l.map fun k => ws.getD k []
end Tw

set_option maxHeartbeats 2000000
namespace Tw
open PySem
def putK (x : Nat) (A : List Nat) : List Nat := if x ∈ A then A else A ++ [x]
/-- small numbers, each once -/
structure Few (b : Nat) (A : List Nat) : Prop where
  nd : A.Nodup
  lt : ∀ x ∈ A, x < b
theorem Few.nil {b : Nat} : Few b [] := ⟨List.nodup_nil, fun _ h => by cases h⟩
theorem Few.len {b : Nat} {A : List Nat} (h : Few b A) : A.length ≤ b := by
  have := nd_len (m := List.range b) h.nd fun x hx => List.mem_range.mpr (h.lt x hx)
  simpa using this
theorem Few.put {b x : Nat} {A : List Nat} (h : Few b A) (hx : x < b) : Few b (putK x A) := by
  unfold putK
  by_cases e : x ∈ A
  · rw [if_pos e]; exact h
  · rw [if_neg e]
    refine ⟨List.nodup_append.mpr ⟨h.nd, List.nodup_cons.mpr ⟨fun z => (by cases z), List.nodup_nil⟩, fun a ha c hc z => ?_⟩, fun y hy => ?_⟩
    · rw [List.mem_singleton.mp hc] at z; exact e (z ▸ ha)
    · exact (List.mem_append.mp hy).elim (h.lt y) fun z => List.mem_singleton.mp z ▸ hx
end Tw

set_option maxHeartbeats 2000000
namespace Tw
open PySem
theorem shp_wds {l : List Wd} (h : ∀ w ∈ l, isW w = true) : shp 60 (.tup (stL l)) = true := by
  have sm : ∀ w : Wd, isW w = true → strOkD (S w) = true := fun w h => by
    unfold strOkD S
    simp only [List.all_toArray, List.all_eq_true, decide_eq_true_eq]
    cases w with
    | nil => intro c hc; cases hc
    | cons a l =>
      intro c hc
      have h3 : (a :: l).all isLD = true := by
        rw [show isW (a :: l) = (decide (l.length < 8) && isL a && (a :: l).all isLD) from rfl] at h
        exact (Bool.and_eq_true_iff.mp h).2
      have h4 := List.all_eq_true.mp h3 c hc
      have hb : (∀ x ∈ LT, x < 0x110000) ∧ ∀ x ∈ DG10, x < 0x110000 := by decide +kernel
      unfold isLD at h4
      rcases Bool.or_eq_true_iff.mp h4 with h5 | h5
      · exact hb.1 c (of_decide_eq_true h5)
      · exact hb.2 c (of_decide_eq_true h5)
  have hs : ∀ l : List Wd, (∀ w ∈ l, isW w = true) → (stL l).all (shp 59) = true := by
    intro l
    induction l with
    | nil => intro _; rfl
    | cons w l ih =>
      intro h
      show (shp 59 (.str (S w)) && (stL l).all (shp 59)) = true
      rw [ih fun w hw => h w (List.mem_cons_of_mem _ hw), Bool.and_true]
      exact sm w (h w List.mem_cons_self)
  exact hs l h
theorem oNe_tup {l : List Wd} (h : ∀ w ∈ l, isW w = true) : oNe (.tup (stL l)) (.tup (stL l)) = some (.bl false) := by
  have hs := shp_wds h
  have hd : deqL (stL l) (stL l) = true := by rw [stL_eq]; exact deqL_refl_str _
  unfold oNe eqD
  rw [if_neg (show ¬ scalD (.tup (stL l)) (.tup (stL l)) = true from Bool.false_ne_true), hs]
  show (some (deqL (stL l) (stL l))).bind _ = _
  rw [hd]
  rfl
/-- the words of a law -/
def lws (f b : List Nat) (z : Bool) (t n : Nat) : List Wd := (List.range n).map (wordL f b z t)
theorem lws_ok {f b : List Nat} {z : Bool} {t n : Nat} (hf : isFr f) (hb : isBk b) (hn : n ≤ 62) : Wds (lws f b z t n) ∧ (lws f b z t n).length = n := by
  unfold lws
  refine ⟨⟨fun w hw => ?_, ?_, ?_⟩, by simp⟩
  · obtain ⟨k, _, rfl⟩ := List.mem_map.mp hw
    exact (word_ok hf hb).1
  · exact nodup_map_of (fun i hi j hj e => word_inj (by have := List.mem_range.mp hi; omega) (by have := List.mem_range.mp hj; omega) e) List.nodup_range
  · simp; omega
end Tw

set_option maxHeartbeats 2000000
namespace Tw
open PySem
def keysOf (ws : List Wd) (n : Nat) : List Str := (wmap ws (List.range n)).map S
def cnL (T : List Int) (ls : List Lnk) (a : Int) : Int := ls.foldl (fun a l => if l.2 then a else a + T.getD l.1 0) a
def cnTab (P : List Pn) (b : Nat) : Nat → List Int
  | 0 => []
  | k + 1 => cnTab P b k ++ [cnL (cnTab P b k) (lks P k) (if k = b then 1 else 0)]
section
variable {ws lb nm : List Wd} {P : List Pn} {L : D} {b k : Nat}
theorem S_beq' (a b : Wd) : (S a == S b) = decide (a = b) := by
  by_cases h : a = b
  · subst h; rw [decide_eq_true rfl]; exact beq_self_eq_true _
  · rw [decide_eq_false h]; exact beq_eq_false_iff_ne.mpr fun e => h (S_inj e)
/-- how many copies of b stand in an object of t -/
noncomputable def cc (P : List Pn) (t b : Nat) : Int := (cnTab P b P.length).getD t 0 + ((shI P t).map fun k => (cnTab P b P.length).getD k 0).sum
end
end Tw

set_option maxHeartbeats 2000000
namespace Tw
open PySem
/-- the step that the link l makes from the way q -/
def stp (q : List Nat) (l : Lnk) : List Nat := if l.2 then [l.1] else q ++ [l.1]
def lst (q : List Nat) : Nat := q.getLast?.getD 0
/-- what the steps reach from w -/
inductive Rch (P : List Pn) (w : List Nat) : List Nat → Prop
  | refl : Rch P w w
  | step {q : List Nat} {l : Lnk} : Rch P w q → l ∈ lks P (lst q) → Rch P w (stp q l)
/-- a way: own steps down -/
def Vw (P : List Pn) (n : Nat) : List Nat → Prop
  | [] => False
  | [a] => a < n
  | a :: b :: r => a < n ∧ (b, false) ∈ lks P a ∧ Vw P n (b :: r)
theorem Vw.ne {P : List Pn} {n : Nat} {q : List Nat} (h : Vw P n q) : q ≠ [] := fun e => by rw [e] at h; exact h
theorem Vw.last {P : List Pn} {n : Nat} : ∀ {q : List Nat}, Vw P n q → lst q < n ∧ q.getLast? = some (lst q)
  | [], h => h.elim
  | [a], h => ⟨h, rfl⟩
  | a :: b :: r, h => by
    have := Vw.last h.2.2
    unfold lst at this ⊢
    rw [List.getLast?_cons_cons]
    exact this
theorem Vw.app {P : List Pn} {n k : Nat} (hk : k < n) : ∀ {q : List Nat}, Vw P n q → (k, false) ∈ lks P (lst q) → Vw P n (q ++ [k])
  | [], h, _ => h.elim
  | [a], h, hl => ⟨h, hl, hk⟩
  | a :: b :: r, h, hl => ⟨h.1, h.2.1, Vw.app hk h.2.2 (by unfold lst at hl ⊢; rw [List.getLast?_cons_cons] at hl; exact hl)⟩
theorem sub_rng {a b : Nat} (h : a ≤ b) : (List.range a).reverse.Sublist (List.range b).reverse := by
  induction b with
  | zero => have : a = 0 := by omega
            subst this; exact List.Sublist.slnil
  | succ b ih =>
    by_cases e : a = b + 1
    · subst e; exact List.Sublist.refl _
    · rw [List.range_succ, List.reverse_append]
      exact (ih (by omega)).cons _
theorem Vw.sub {P : List Pn} {m n : Nat} (ho : PlanOk m P) : ∀ {q : List Nat} {b : Nat}, Vw P n q → (∀ a r, q = a :: r → a < b) → q.Sublist (List.range b).reverse
  | [], _, h, _ => h.elim
  | [a], b, h, hb => by
    have := hb a [] rfl
    have s := sub_rng (show a + 1 ≤ b by omega)
    rw [List.range_succ, List.reverse_append] at s
    exact ((List.nil_sublist _).cons₂ a).trans s
  | a :: c :: r, b, h, hb => by
    have := hb a _ rfl
    have s := sub_rng (show a + 1 ≤ b by omega)
    rw [List.range_succ, List.reverse_append] at s
    exact ((Vw.sub ho (b := a) h.2.2 (fun x y e => by cases e; exact lks_lt ho h.2.1)).cons₂ a).trans s
section
variable {P : List Pn} {m n : Nat}
theorem lk_tri (l : Lnk) (h : l.2 = false) : l = (l.1, false) := by cases l; cases h; rfl
theorem stp_vw (ho : PlanOk m P) {q : List Nat} (h : Vw P n q) {l : Lnk} (hl : l ∈ lks P (lst q)) : Vw P n (stp q l) := by
  have := lks_lt ho hl
  have := h.last.1
  unfold stp
  cases e : l.2 with
  | true => rw [if_pos rfl]; show l.1 < n; omega
  | false =>
    rw [if_neg Bool.false_ne_true]
    exact h.app (by omega) (lk_tri l e ▸ hl)
theorem Rch.vw (ho : PlanOk m P) {w q : List Nat} (hw : Vw P n w) (h : Rch P w q) : Vw P n q := by
  induction h with
  | refl => exact hw
  | step _ hl ih => exact stp_vw ho ih hl
end
end Tw

set_option maxHeartbeats 2000000
namespace Tw
open PySem
def tld (ws : List Wd) (q : List Nat) : D := .tup (stL (wmap ws q))
section
variable {P : List Pn} {n : Nat} {ws lb nm : List Wd}
theorem Vw.all (ho : PlanOk lb.length P) {q : List Nat} (h : Vw P n q) : (∀ k ∈ q, k < n) ∧ q.length ≤ n := by
  have s := h.sub ho (b := n) fun a r e => by
    rw [e] at h
    cases r with
    | nil => exact h
    | cons b r => exact h.1
  refine ⟨fun k hk => ?_, ?_⟩
  · have := s.subset hk
    rw [List.mem_reverse, List.mem_range] at this
    exact this
  · have := s.length_le
    rwa [List.length_reverse, List.length_range] at this
end
end Tw

set_option maxHeartbeats 2000000
namespace Tw
open PySem
/-- the class j declares x; declares it static -/
def dcl (ws lb : List Wd) (P : List Pn) (x : Wd) (j : Nat) : Bool := decide (x ∈ (prDr ws lb j (P.getD j ⟨[], []⟩)).ns) || decide (x ∈ (prDr ws lb j (P.getD j ⟨[], []⟩)).ss)
/-- the first way that clashes with the first one -/
def clash (st : Nat → Bool) (a b : List Nat) : Bool := !decide (lst b = lst a) || !st (lst b)
def wayD (ws : List Wd) (F : List (List Nat)) : List D := F.map (tld ws)
end Tw

set_option maxHeartbeats 2000000
namespace Tw
open PySem
/-- ways by title -/
def dV (ws : List Wd) (T : List (List (List Nat))) : D := .dct (keysOf ws T.length) (T.map fun F => .lst (wayD ws F))
end Tw

set_option maxHeartbeats 2000000
namespace Tw
open PySem
end Tw

set_option maxHeartbeats 2000000
namespace Tw
open PySem
end Tw

set_option maxHeartbeats 2000000
namespace Tw
open PySem
end Tw

set_option maxHeartbeats 2000000
namespace Tw
/-- A tells what F tells -/
structure Thin (st : Nat → Bool) (A F : List (List Nat)) : Prop where
  sub : ∀ q ∈ A, q ∈ F
  ne : A = [] → F = []
  one : A.length ≤ 1 → ∀ q ∈ F, ∀ r ∈ F, q ≠ r → lst q = lst r ∧ st (lst q) = true
  two : 2 ≤ A.length → ∃ a b, A = [a, b] ∧ a ∈ F ∧ b ∈ F ∧ clash st a b = true ∧ a ≠ b
end Tw

set_option maxHeartbeats 2000000
namespace Tw
theorem Thin.nd {st : Nat → Bool} {A F : List (List Nat)} (h : Thin st A F) : A.Nodup := by
  rcases Nat.lt_or_ge A.length 2 with h1 | h1
  · match A, h1 with
    | [], _ => exact List.nodup_nil
    | [a], _ => exact List.nodup_cons.mpr ⟨fun z => (by cases z), List.nodup_nil⟩
    | a :: b :: A, h1 => simp only [List.length_cons] at h1; omega
  · obtain ⟨a, b, rfl, _, _, _, hab⟩ := h.two h1
    exact List.nodup_cons.mpr ⟨fun z => hab (List.mem_singleton.mp z), List.nodup_cons.mpr ⟨fun z => (by cases z), List.nodup_nil⟩⟩
end Tw

set_option maxHeartbeats 2000000
namespace Tw
end Tw

set_option maxHeartbeats 2000000
namespace Tw
open PySem
theorem shp_str {w : Wd} (h : isW w = true) (k : Nat) : shp k (.str (S w)) = true := by
  have := shp_wds (l := [w]) (fun x hx => by rw [List.mem_singleton.mp hx]; exact h)
  have h2 : strOkD (S w) = true := by
    have : (shp 59 (.str (S w)) && true) = true := this
    rw [Bool.and_true] at this
    exact this
  cases k <;> exact h2
end Tw

set_option maxHeartbeats 2000000
namespace Tw
open PySem
def mk (P : List Pn) (mi j : Nat) : Int := (P.getD j ⟨[], []⟩).ms.getD mi 0
end Tw

namespace Tw
open PySem
section
variable {ρ ρ' : DEnv} {a b k : DE} {b0 s t : DS} {es : List String} {hs : List Hd} {e : Ex} {d v : D} {i n : Nat} {f : Str} {c : String} {o : Option Slot} {l : List D}
def tryS (es : List String) (hs : List Hd) (r : R Out) : R Out := match r with
  | .ok (.xx e ρ') => if e.cls ∈ es then tryH hs e ρ' else .no
  | r => r
theorem q_try : sTry es b0 hs ρ = tryS es hs (b0 ρ) := by
  unfold sTry tryS
  cases b0 ρ with
  | ok o => cases o <;> rfl
  | ex e => rfl
  | no => rfl
theorem ty_nx : tryS es hs (.ok (.nx ρ)) = .ok (.nx ρ) := rfl
theorem ty_rt : tryS es hs (.ok (.rt d ρ)) = .ok (.rt d ρ) := rfl
theorem th_n : tryH [] e ρ = .ok (.xx e ρ) := rfl
def clS (i : Nat) (s : Ex → DS) (e : Ex) (ρ : DEnv) (o : Option Slot) : R Out := match o with
  | none => outX i (s e ρ)
  | _ => .no
def thS (k : Bool) (i : Nat) (s : Ex → DS) (hs : List Hd) (e : Ex) (ρ : DEnv) : R Out := if k then clS i s e ρ (getO i ρ) else tryH hs e ρ
theorem th_c {s : Ex → DS} (hi : i < ρ.length) : tryH ((c, i, s) :: hs) e ρ = thS (exSub e.cls c) i s hs e ρ := by
  unfold tryH thS clS getO
  rw [List.getElem?_eq_getElem hi]
  generalize ρ[i]'hi = o
  cases exSub e.cls c with
  | false => rfl
  | true => cases o <;> rfl
theorem ths_t {s : Ex → DS} : thS true i s hs e ρ = clS i s e ρ (getO i ρ) := rfl
theorem ths_f {s : Ex → DS} : thS false i s hs e ρ = tryH hs e ρ := rfl
theorem cl_none {s : Ex → DS} : clS i s e ρ none = outX i (s e ρ) := rfl
theorem ox_rt : outX i (.ok (.rt d ρ)) = .ok (.rt d ρ) := rfl
theorem q_xf {cn : String} {ks : List Str} {vs : List D} : eXf ⟨cn, ks, vs⟩ f ρ = R.of (lookD ks vs f) := rfl
theorem q_xi {cn : String} {ks : List Str} {vs : List D} : eXi ⟨cn, ks, vs⟩ c ρ = .ok (.bl (exSub cn c)) := rfl
def putlS (i : Nat) (v : D) (k : DE) (ρ : DEnv) (o : Option Slot) : R Out := match o with
  | some (.own (.lst l)) => (k ρ).st ρ fun x => match x with
    | .int j => if 0 ≤ j ∧ j < l.length then .ok (.nx (ρ.set i (some (.own (.lst (l.set j.toNat v)))))) else .no
    | _ => .no
  | _ => .no
theorem q_putl : sPutL i k a ρ = (a ρ).st ρ fun v => putlS i v k ρ (getO i ρ) := by
  unfold sPutL putlS getO
  congr 1
  funext v
  cases h : ρ[i]? with
  | none => rfl
  | some o => cases o with
    | none => rfl
    | some o => cases o <;> first | rfl | (rename_i d; cases d <;> rfl)
def pljS (i : Nat) (v : D) (l : List D) (ρ : DEnv) (x : D) : R Out := match x with
  | .int j => if 0 ≤ j ∧ j < l.length then .ok (.nx (ρ.set i (some (.own (.lst (l.set j.toNat v)))))) else .no
  | _ => .no
theorem pl_l : putlS i v k ρ (some (.own (.lst l))) = (k ρ).st ρ fun x => pljS i v l ρ x := rfl
theorem plj_i {j : Int} (h : 0 ≤ j) (h2 : j < l.length) : pljS i v l ρ (.int j) = .ok (.nx (ρ.set i (some (.own (.lst (l.set j.toNat v)))))) := if_pos ⟨h, h2⟩
def joinS (b : DE) (ρ : DEnv) (x : D) : R D := match x with
  | .str z => (b ρ).bind fun y => R.of (oJoin z y)
  | _ => .no
theorem q_join : eJoin a b ρ = (a ρ).bind (joinS b ρ) := by
  unfold eJoin joinS
  cases a ρ with
  | ok x => cases x <;> rfl
  | ex e => rfl
  | no => rfl
theorem jn_s {z : Str} : joinS b ρ (.str z) = (b ρ).bind fun y => R.of (oJoin z y) := rfl
def ev2 := And.intro @q_try <| And.intro @ty_nx <| And.intro @ty_rt <| And.intro @th_n <| And.intro @ths_t <| And.intro @ths_f <| And.intro @cl_none <| And.intro @ox_rt <| And.intro @q_xf <| And.intro @q_xi <| And.intro @q_putl <| And.intro @pl_l <| And.intro @q_join @jn_s
end
end Tw

set_option maxHeartbeats 2000000
namespace Tw
open PySem
theorem it_S (l : Wd) : iterD (.str (S l)) = some (l.map fun c => .str (S [c])) := by simp [iterD, S]
theorem in_S (c : Nat) (l : Wd) : oIn (.str (S [c])) (.str (S l)) = some (.bl (decide (c ∈ l))) := by
  unfold oIn inD
  have e : sgnD (S [c]) = some c := rfl
  simp only [e]
  rfl
theorem all_bl {α : Type} (p : α → Bool) (l : List α) : oAll (.lst (l.map fun c => .bl (p c))) = some (.bl (l.all p)) := by
  have : blsD (l.map fun c => D.bl (p c)) = some (l.map p) := by
    induction l with
    | nil => rfl
    | cons a l ih => rw [List.map_cons]; unfold blsD; rw [ih]; rfl
  unfold oAll
  simp only [this, List.all_map]
  rfl
theorem lineD_big {n : Nat} (h : n ≤ 1000000) : n ≤ lineD := Nat.le_trans h (by decide)
theorem law_is_word_ok (l : Wd) (hl : l.length ≤ 1000) : d_law_is_word [.str (S l)] = .ok (.bl (isW l)) := by
  have e0 : oEq (.str (S l)) (.str "") = some (.bl (decide (l = []))) := by
    have : (.str "" : D) = .str (S []) := rfl
    rw [this, p_eqs, S_beq']
  have ln : oLen (.str (S l)) = some (.int ((l.length : Nat) : Int)) := oLen_S (lineD_big (by omega))
  have ad : oAdd (.str "ABCDEFGHIJKLMNOPQRSTUVWXYZabcdefghijklmnopqrstuvwxyz") (.str "0123456789") = some (.str (S (LT ++ DG10))) := by
    show oAdd (.str sLT) (.str sDG) = _
    rw [sLT_eq, sDG_eq]
    exact oAdd_S (lineD_big (by decide))
  have it := it_S l
  have cm : ∀ c1, compS (gVar 2) tYesD (e2 oIn (eVar 2) (e2 oAdd (eVar 1) (eC (.str "0123456789")))) [2] [some (.val (.str (S l))), some (.val (.str "ABCDEFGHIJKLMNOPQRSTUVWXYZabcdefghijklmnopqrstuvwxyz")), c1] (l.map fun c => .str (S [c])) = .ok (.lst (l.map fun c => .bl (decide (c ∈ LT ++ DG10)))) ∨ c1 ≠ none := by
    intro c1
    cases c1 with
    | some x => right; simp
    | none =>
      left
      rw [comp_map (fun c => .str (S [c])) (fun c => .bl (decide (c ∈ LT ++ DG10))) (by omega) rfl (fun c hc => by
        have i := in_S c (LT ++ DG10)
        unfold cStep
        simp -implicitDefEqProofs (disch := (first | assumption | omega | (simp only [ngs]; done) | decide)) only [ev, R.bind_ok, R.bind_ex, R.st_ok, R.st_ex, R.of_some, List.length_map, ↓ad, i, if_true])]
  have cm := (cm none).resolve_right (by simp)
  have al := all_bl (fun c => decide (c ∈ LT ++ DG10)) l
  have eld : (l.all fun c => decide (c ∈ LT ++ DG10)) = l.all isLD := by
    congr 1
    funext c
    unfold isLD
    simp [List.mem_append]
  rw [eld] at al
  rw [e_law_is_word]
  unfold b_law_is_word
  cases l with
  | nil =>
    rw [decide_eq_true rfl] at e0
    simp -implicitDefEqProofs (disch := (first | assumption | omega | (simp only [ngs]; done) | decide)) only [ev, R.bind_ok, R.bind_ex, R.st_ok, R.st_ex, R.of_some, List.length_map, ↓e0]
    rfl
  | cons c r =>
    rw [decide_eq_false (by simp)] at e0
    have i0 : oIx (.str (S (c :: r))) (.int 0) = some (.str (S [c])) := oIx_S (lineD_big (by omega)) (by decide) rfl
    have nl : oNotIn (.str (S [c])) (.str "ABCDEFGHIJKLMNOPQRSTUVWXYZabcdefghijklmnopqrstuvwxyz") = some (.bl (!isL c)) := in_LT c
    show _ = R.ok (D.bl (decide (r.length < 8) && isL c && (c :: r).all isLD))
    by_cases h8 : r.length < 8
    · have d8 : decide ((8 : Int) < (((c :: r).length : Nat) : Int)) = false := decide_eq_false (by rw [List.length_cons]; omega)
      rw [decide_eq_true h8, Bool.true_and]
      cases hc : isL c with
      | false =>
        rw [hc] at nl
        simp -implicitDefEqProofs (disch := (first | assumption | omega | (simp only [ngs]; done) | decide)) only [ev, R.bind_ok, R.bind_ex, R.st_ok, R.st_ex, R.of_some, List.length_map, ↓e0, ↓ln, d8, ↓i0, ↓nl, Bool.false_and]
      | true =>
        rw [hc] at nl
        simp -implicitDefEqProofs (disch := (first | assumption | omega | (simp only [ngs]; done) | decide)) only [ev, R.bind_ok, R.bind_ex, R.st_ok, R.st_ex, R.of_some, List.length_map, ↓e0, ↓ln, d8, ↓i0, ↓nl, Bool.true_and, ↓it, cm, ↓al]
    · have d8 : decide ((8 : Int) < (((c :: r).length : Nat) : Int)) = true := decide_eq_true (by rw [List.length_cons]; omega)
      rw [decide_eq_false h8, Bool.false_and, Bool.false_and]
      simp -implicitDefEqProofs (disch := (first | assumption | omega | (simp only [ngs]; done) | decide)) only [ev, R.bind_ok, R.bind_ex, R.st_ok, R.st_ex, R.of_some, List.length_map, ↓e0, ↓ln, d8]
/-- the first bad one: not a word (true), or one that stood before (false) -/
def fbd : List Wd → List Wd → Option (Bool × Wd)
  | _, [] => none
  | gs, w :: l => if isW w then (if w ∈ gs then some (false, w) else fbd (gs ++ [w]) l) else some (true, w)
def bdX : Bool × Wd → Ex
  | (true, w) => ⟨"InvalidWord", ["word"], [.str (S w)]⟩
  | (false, w) => ⟨"DuplicateName", ["name"], [.str (S w)]⟩
section
variable {s nd sd : D}
theorem decl_any : ∀ (l gs : List Wd), (∀ w ∈ l, w.length ≤ 1000) → gs.length + l.length ≤ 1000 →
    (fbd gs l = none ∧ forL (gVar 4) [4] b_Declaring_init_1 (stL l) [some (.slf s), some (.val nd), some (.val sd), some (.own (.lst (stL gs))), none] = .ok (.nx [some (.slf s), some (.val nd), some (.val sd), some (.own (.lst (stL (gs ++ l)))), none])) ∨
    (∃ b, fbd gs l = some b ∧ ∃ ρ, forL (gVar 4) [4] b_Declaring_init_1 (stL l) [some (.slf s), some (.val nd), some (.val sd), some (.own (.lst (stL gs))), none] = .ok (.xx (bdX b) ρ))
  | [], gs, _, _ => .inl ⟨rfl, by rw [show stL [] = [] from rfl, f_n, List.append_nil]⟩
  | w :: l, gs, hw, hl => by
    have h1 := hw w List.mem_cons_self
    rw [List.length_cons] at hl
    have iw := is_word_ok w h1
    have i2 := oIn_lst w gs
    have gl : (stL gs).length < 1000000 := by rw [stL_len]; omega
    rw [show stL (w :: l) = .str (S w) :: stL l from rfl, f_c]
    unfold fbd
    cases hb : isW w with
    | false =>
      rw [hb] at iw
      right
      refine ⟨(true, w), by simp, [some (.slf s), some (.val nd), some (.val sd), some (.own (.lst (stL gs))), some (.val (.str (S w)))], ?_⟩
      have st : b_Declaring_init_1 [some (.slf s), some (.val nd), some (.val sd), some (.own (.lst (stL gs))), some (.val (.str (S w)))] = .ok (.xx (bdX (true, w)) [some (.slf s), some (.val nd), some (.val sd), some (.own (.lst (stL gs))), some (.val (.str (S w)))]) := by
        unfold b_Declaring_init_1
        simp -implicitDefEqProofs (disch := (first | assumption | omega | (simp only [ngs]; done) | decide)) only [ev, R.bind_ok, R.bind_ex, R.st_ok, R.st_ex, R.of_some, List.length_map, iw]
        rfl
      simp -implicitDefEqProofs (disch := (first | assumption | omega | (simp only [ngs]; done) | decide)) only [ev, R.bind_ok, R.bind_ex, R.st_ok, R.st_ex, R.of_some, List.length_map, st]
    | true =>
      rw [hb] at iw
      by_cases hm : w ∈ gs
      · rw [decide_eq_true hm] at i2
        right
        refine ⟨(false, w), by simp [hm], [some (.slf s), some (.val nd), some (.val sd), some (.own (.lst (stL gs))), some (.val (.str (S w)))], ?_⟩
        have st : b_Declaring_init_1 [some (.slf s), some (.val nd), some (.val sd), some (.own (.lst (stL gs))), some (.val (.str (S w)))] = .ok (.xx (bdX (false, w)) [some (.slf s), some (.val nd), some (.val sd), some (.own (.lst (stL gs))), some (.val (.str (S w)))]) := by
          unfold b_Declaring_init_1
          simp -implicitDefEqProofs (disch := (first | assumption | omega | (simp only [ngs]; done) | decide)) only [ev, R.bind_ok, R.bind_ex, R.st_ok, R.st_ex, R.of_some, List.length_map, iw, i2]
          rfl
        simp -implicitDefEqProofs (disch := (first | assumption | omega | (simp only [ngs]; done) | decide)) only [ev, R.bind_ok, R.bind_ex, R.st_ok, R.st_ex, R.of_some, List.length_map, st]
      · rw [decide_eq_false hm] at i2
        have st : b_Declaring_init_1 [some (.slf s), some (.val nd), some (.val sd), some (.own (.lst (stL gs))), some (.val (.str (S w)))] = .ok (.nx [some (.slf s), some (.val nd), some (.val sd), some (.own (.lst (stL (gs ++ [w])))), some (.val (.str (S w)))]) := by
          unfold b_Declaring_init_1
          simp -implicitDefEqProofs (disch := (first | assumption | omega | (simp only [ngs]; done) | decide)) only [ev, R.bind_ok, R.bind_ex, R.st_ok, R.st_ex, R.of_some, List.length_map, iw, i2, lt_ok gl]
          rw [stL_app]
          rfl
        have ih := decl_any l (gs ++ [w]) (fun x hx => hw x (List.mem_cons_of_mem _ hx)) (by rw [List.length_append, List.length_singleton]; omega)
        simp only [if_true, if_neg hm]
        rw [List.append_assoc, show [w] ++ l = w :: l from rfl] at ih
        rcases ih with ⟨e1, e2⟩ | ⟨b, e1, ρ, e2⟩
        · exact .inl ⟨e1, by simp -implicitDefEqProofs (disch := (first | assumption | omega | (simp only [ngs]; done) | decide)) only [ev, R.bind_ok, R.bind_ex, R.st_ok, R.st_ex, R.of_some, List.length_map, st, e2]⟩
        · exact .inr ⟨b, e1, ρ, by simp -implicitDefEqProofs (disch := (first | assumption | omega | (simp only [ngs]; done) | decide)) only [ev, R.bind_ok, R.bind_ex, R.st_ok, R.st_ex, R.of_some, List.length_map, st, e2]⟩
end
theorem add_Lt {nd sd : D} {ns ss : List Wd} (hn : Lt nd (stL ns)) (hs : Lt sd (stL ss)) (hl : ns.length + ss.length ≤ 1000) : ∀ ρ, ρ[1]? = some (some (.val nd)) → ρ[2]? = some (some (.val sd)) → iOf (e2 oAdd (e1 oList (eVar 1)) (e1 oList (eVar 2))) ρ = .ok (stL (ns ++ ss)) := by
  intro ρ h1 h2
  have v1 : eVar 1 ρ = .ok nd := by unfold eVar; rw [h1]
  have v2 : eVar 2 ρ = .ok sd := by unfold eVar; rw [h2]
  have ad : oAdd (.lst (stL ns)) (.lst (stL ss)) = some (.lst (stL (ns ++ ss))) := by
    rw [p_addl (by rw [stL_len, stL_len]; omega), stL_app]
  have it : iterD (.lst (stL (ns ++ ss))) = some (stL (ns ++ ss)) := rfl
  simp -implicitDefEqProofs (disch := (first | assumption | omega | (simp only [ngs]; done) | decide)) only [ev, R.bind_ok, R.bind_ex, R.st_ok, R.st_ex, R.of_some, List.length_map, v1, v2, hn.list, hs.list, ad, it]
/-- a Declaring that can't be made -/
theorem declI_bad {s nd sd : D} {ns ss : List Wd} {b : Bool × Wd} (hn : Lt nd (stL ns)) (hs : Lt sd (stL ss)) (hw : ∀ w ∈ ns ++ ss, w.length ≤ 1000) (hl : ns.length + ss.length ≤ 1000) (h : fbd [] (ns ++ ss) = some b) :
    d_Declaring_init s [nd, sd] = .ex (bdX b) := by
  have lp := decl_any (s := s) (nd := nd) (sd := sd) (ns ++ ss) [] hw (by rw [List.length_append]; simpa using hl)
  rw [h] at lp
  rcases lp with ⟨e, _⟩ | ⟨b', e, ρ, lp⟩
  · cases e
  · cases e
    have it := add_Lt hn hs hl [some (.slf s), some (.val nd), some (.val sd), some (.own (.lst (stL []))), none] rfl rfl
    rw [e_Declaring_init]
    unfold b_Declaring_init
    rw [show stL [] = [] from rfl] at lp it
    simp -implicitDefEqProofs (disch := (first | assumption | omega | (simp only [ngs]; done) | decide)) only [ev, R.bind_ok, R.bind_ex, R.st_ok, R.st_ex, R.of_some, List.length_map, ↓it, lp]
theorem fb_good : ∀ (l gs : List Wd), fbd gs l = none → (∀ w ∈ l, isW w = true) ∧ l.Nodup ∧ ∀ w ∈ l, w ∉ gs
  | [], _, _ => ⟨fun _ h => (by cases h), List.nodup_nil, fun _ h => (by cases h)⟩
  | w :: l, gs, h => by
    unfold fbd at h
    split at h
    · rename_i hw
      split at h
      · cases h
      · rename_i hm
        obtain ⟨h1, h2, h3⟩ := fb_good l (gs ++ [w]) h
        have hn : w ∉ l := fun z => h3 w z (List.mem_append_right _ List.mem_cons_self)
        refine ⟨fun x hx => ?_, List.nodup_cons.mpr ⟨hn, h2⟩, fun x hx => ?_⟩
        · rcases List.mem_cons.mp hx with rfl | hx
          · exact hw
          · exact h1 x hx
        · rcases List.mem_cons.mp hx with rfl | hx
          · exact hm
          · exact fun z => h3 x hx (List.mem_append_left _ z)
    · cases h
end Tw

set_option maxHeartbeats 2000000
namespace Tw
open PySem
def bkApp (A : List Nat) (x : Nat) : List Nat := if A.length < 2 ∨ (A.length < 3 ∧ x ∉ A) then A ++ [x] else A
/-- B tells of L: none, one, more than one, all the same -/
structure BkW (B L : List Nat) : Prop where
  ln : B.length ≤ L.length
  two : min 2 L.length ≤ B.length
  all : ∀ y, (∀ x ∈ B, x = y) → ∀ z ∈ L, z = y
  sub : ∀ x ∈ B, x ∈ L
structure BkT (B L : List Nat) : Prop extends BkW B L where
  thr : 3 ≤ B.length → ∃ a ∈ B, ∃ b ∈ B, a ≠ b
  few : B.length ≤ 3
theorem BkT.nil : BkT [] [] := ⟨⟨Nat.le_refl _, Nat.le_refl _, fun _ _ z h => (by cases h), fun _ h => (by cases h)⟩, fun h => (by simp at h), Nat.zero_le _⟩
theorem BkT.one (x : Nat) : BkT [x] [x] := ⟨⟨Nat.le_refl _, by simp, fun _ h => h, fun _ h => h⟩, fun h => (by simp at h), by simp⟩
theorem BkT.app {B L : List Nat} (h : BkT B L) (x : Nat) : BkT (bkApp B x) (L ++ [x]) := by
  unfold bkApp
  have h1 := h.ln
  have h2 := h.two
  by_cases c : B.length < 2 ∨ (B.length < 3 ∧ x ∉ B)
  · rw [if_pos c]
    refine ⟨⟨by simp; omega, by simp; omega, fun y hy z hz => ?_, fun z hz => ?_⟩, fun h3 => ?_, by simp; omega⟩
    · rcases List.mem_append.mp hz with hz | hz
      · exact h.all y (fun b hb => hy b (List.mem_append_left _ hb)) z hz
      · rw [List.mem_singleton.mp hz]; exact hy x (List.mem_append_right _ List.mem_cons_self)
    · rcases List.mem_append.mp hz with hz | hz
      · exact List.mem_append_left _ (h.sub z hz)
      · exact List.mem_append_right _ hz
    · rw [List.length_append, List.length_singleton] at h3
      rcases c with c | ⟨c, hx⟩
      · omega
      · obtain ⟨b, hb⟩ : ∃ b, b ∈ B := List.exists_mem_of_length_pos (by omega)
        exact ⟨b, List.mem_append_left _ hb, x, List.mem_append_right _ List.mem_cons_self, fun e => hx (e ▸ hb)⟩
  · rw [if_neg c]
    refine ⟨⟨by simp; omega, by simp; omega, fun y hy z hz => ?_, fun z hz => List.mem_append_left _ (h.sub z hz)⟩, h.thr, h.few⟩
    rcases List.mem_append.mp hz with hz | hz
    · exact h.all y hy z hz
    · rw [List.mem_singleton.mp hz]
      by_cases hx : x ∈ B
      · exact hy x hx
      · have : 3 ≤ B.length := by
          by_cases h3 : B.length < 3
          · exact absurd (.inr ⟨h3, hx⟩) c
          · omega
        obtain ⟨a, ha, b, hb, hab⟩ := h.thr this
        exact absurd ((hy a ha).trans (hy b hb).symm) hab
theorem BkW.app2 {B L B2 L2 : List Nat} (h : BkW B L) (k : BkW B2 L2) : BkW (B ++ B2) (L ++ L2) := by
  have h1 := h.ln
  have h2 := h.two
  have k1 := k.ln
  have k2 := k.two
  refine ⟨by simp; omega, by simp; omega, fun y hy z hz => ?_, fun z hz => ?_⟩
  · rcases List.mem_append.mp hz with hz | hz
    · exact h.all y (fun b hb => hy b (List.mem_append_left _ hb)) z hz
    · exact k.all y (fun b hb => hy b (List.mem_append_right _ hb)) z hz
  · rcases List.mem_append.mp hz with hz | hz
    · exact List.mem_append_left _ (h.sub z hz)
    · exact List.mem_append_right _ (k.sub z hz)
end Tw

set_option maxHeartbeats 2000000
namespace Tw
open PySem
theorem any_int (x : Int) (ls : List Int) : ((ls.map D.int).any fun y => deq y (.int x)) = decide (x ∈ ls) := by
  induction ls with
  | nil => rfl
  | cons a ls ih =>
    rw [List.map_cons, List.any_cons, ih]
    show (a == x || decide (x ∈ ls)) = _
    rw [show (a == x) = decide (a = x) from by by_cases h : a = x <;> simp [h], ← Bool.decide_or, decide_eq_decide, List.mem_cons]
    exact ⟨fun h => h.imp Eq.symm id, fun h => h.imp Eq.symm id⟩
theorem flat_int (ls : List Int) : (ls.map D.int).all flatD = true := by
  rw [List.all_map, List.all_eq_true]; exact fun _ _ => rfl
theorem in_tupi (x : Int) (ls : List Int) : oIn (.int x) (.tup (ls.map .int)) = some (.bl (decide (x ∈ ls))) := by
  unfold oIn inD
  simp only [show flatD (.int x) = true from rfl, flat_int, Bool.and_self, if_true, any_int]
  rfl
def limP : List Int := [9, 5, 9, 9, 8, 5, 9] ++ List.replicate 8 13
def bdL (ws : List Wd) : List Wd := [[], 49 :: ws.getD 0 [], ws.getD 1 [] ++ [95], [97, 98, 99, 100, 101, 102, 103, 104, 105], ws.getD 2 [] ++ [32]]
/-- a text of true signs, no long one -/
def Gd (w : Wd) : Prop := w.length ≤ 100 ∧ ∀ c ∈ w, c < 0x110000
theorem Gd.ok {w : Wd} (h : Gd w) : strOkD (S w) = true := by
  unfold strOkD S
  simp only [List.all_toArray, List.all_eq_true, decide_eq_true_eq]
  exact h.2
theorem Gd.shp {w : Wd} (h : Gd w) (k : Nat) : shp k (.str (S w)) = true := by cases k <;> exact h.ok
theorem gd_W {w : Wd} (h : isW w = true) : Gd w := by
  refine ⟨by have := isW_len h; omega, fun c hc => ?_⟩
  have := shp_str h 0
  have this : strOkD (S w) = true := this
  unfold strOkD S at this
  simp only [List.all_toArray, List.all_eq_true, decide_eq_true_eq] at this
  exact this c hc
theorem Gd.cons {c : Nat} {w : Wd} (hc : c < 0x110000) (hw : isW w = true) : Gd (c :: w) := by
  refine ⟨by have := isW_len hw; rw [List.length_cons]; omega, fun x hx => ?_⟩
  rcases List.mem_cons.mp hx with rfl | hx
  · exact hc
  · exact (gd_W hw).2 x hx
theorem Gd.snoc {c : Nat} {w : Wd} (hc : c < 0x110000) (hw : isW w = true) : Gd (w ++ [c]) := by
  refine ⟨by have := isW_len hw; rw [List.length_append, List.length_singleton]; omega, fun x hx => ?_⟩
  rcases List.mem_append.mp hx with hx | hx
  · exact (gd_W hw).2 x hx
  · rw [List.mem_singleton.mp hx]; exact hc
structure PtOk (z : Nat) (L : List Wd) : Prop where
  l : L.length = z
  w : ∀ w ∈ L, Gd w
theorem PtOk.set {z i : Nat} {L : List Wd} {w : Wd} (h : PtOk z L) (hw : Gd w) : PtOk z (L.set i w) :=
  ⟨by rw [List.length_set]; exact h.l, fun x hx => (List.mem_or_eq_of_mem_set hx).elim (h.w x) fun e => by rw [e]; exact hw⟩
theorem stL_set {L : List Wd} {i : Nat} {w : Wd} : (stL L).set i (.str (S w)) = stL (L.set i w) := by unfold stL; rw [List.map_set]
theorem law_parts_ok (c s : Int) {ws : List Wd} (hw : Wds ws) (hl : ws.length = 8) : ∃ (z : Nat) (L : List Wd) (k : Nat), z ≤ 8 ∧ PtOk z L ∧ k ≤ z ∧ d_law_parts [.int c, .int s, .lst (stL ws)] = .ok (.lst [.lst (stL L), .int k]) := by
  obtain ⟨row, hrow, hrl, hB⟩ := law_row_ok c s limP (by decide) (by decide)
  have hrl : row.length = 15 := hrl
  have gx : ∀ k : Nat, k < 15 → atD (row.map D.int) (k : Int) = some (.int (row.getD k 0)) := fun k hk => at_eq (n := k) (mapG (getD_some (by omega))) rfl
  have x0 : atD (row.map D.int) 0 = some (.int (row.getD 0 0)) := gx 0 (by decide)
  have x1 : atD (row.map D.int) 1 = some (.int (row.getD 1 0)) := gx 1 (by decide)
  have x2 : atD (row.map D.int) 2 = some (.int (row.getD 2 0)) := gx 2 (by decide)
  have x3 : atD (row.map D.int) 3 = some (.int (row.getD 3 0)) := gx 3 (by decide)
  have x4 : atD (row.map D.int) 4 = some (.int (row.getD 4 0)) := gx 4 (by decide)
  have x5 : atD (row.map D.int) 5 = some (.int (row.getD 5 0)) := gx 5 (by decide)
  have x6 : atD (row.map D.int) 6 = some (.int (row.getD 6 0)) := gx 6 (by decide)
  obtain ⟨a0, a1⟩ := hB 0 _ 9 (getD_some (l := row) (k := 0) (by omega)) rfl
  obtain ⟨b0, b1⟩ := hB 4 _ 8 (getD_some (l := row) (k := 4) (by omega)) rfl
  obtain ⟨c0, c1⟩ := hB 5 _ 5 (getD_some (l := row) (k := 5) (by omega)) rfl
  have dr : ∀ k : Nat, k < 8 → ∃ v : Nat, atD (row.map D.int) (7 + (k : Int)) = some (.int v) ∧ v < 13 := fun k hk => by
    obtain ⟨d0, d1⟩ := hB (7 + k) _ 13 (getD_some (l := row) (k := 7 + k) (by omega)) (by unfold limP; rw [List.getElem?_append_right (by show 7 ≤ 7 + k; omega)]; show (List.replicate 8 (13 : Int))[7 + k - 7]? = _; rw [List.getElem?_replicate, if_pos (by omega)])
    refine ⟨(row.getD (7 + k) 0).toNat, ?_, by omega⟩
    rw [show (7 + (k : Int)) = ((7 + k : Nat) : Int) by omega, gx _ (by omega), show (((row.getD (7 + k) 0).toNat : Nat) : Int) = row.getD (7 + k) 0 by omega]
  obtain ⟨z, hz⟩ : ∃ z : Nat, row.getD 0 0 = z := ⟨(row.getD 0 0).toNat, by omega⟩
  obtain ⟨u, hu⟩ : ∃ z : Nat, row.getD 4 0 = z := ⟨(row.getD 4 0).toNat, by omega⟩
  obtain ⟨v, hv⟩ : ∃ z : Nat, row.getD 5 0 = z := ⟨(row.getD 5 0).toNat, by omega⟩
  rw [hz] at x0 a0 a1
  rw [hu] at x4 b0 b1
  rw [hv] at x5 c0 c1
  generalize row.getD 1 0 = r1 at x1
  generalize row.getD 2 0 = r2 at x2
  generalize row.getD 3 0 = r3 at x3
  generalize row.getD 6 0 = r6 at x6
  have wl : ∀ k, (ws.getD k []).length ≤ 8 := fun k => by
    by_cases h : k < ws.length
    · exact isW_len (hw.w _ (wmem h))
    · rw [List.getD_eq_getElem?_getD, List.getElem?_eq_none (by omega)]; exact Nat.zero_le _
  have wg : ∀ k, k < 8 → isW (ws.getD k []) = true := fun k h => hw.w _ (wmem (by omega))
  have wgd : ∀ k, Gd (ws.getD k []) := fun k => by
    by_cases h : k < ws.length
    · exact gd_W (hw.w _ (wmem h))
    · rw [List.getD_eq_getElem?_getD, List.getElem?_eq_none (by omega)]; exact ⟨Nat.zero_le _, fun _ h => (by cases h)⟩
  have bdl : ∀ k, Gd ((bdL ws).getD k []) := fun k => by
    match k with
    | 0 => exact ⟨Nat.zero_le _, fun _ h => (by cases h)⟩
    | 1 => exact Gd.cons (by decide) (wg 0 (by decide))
    | 2 => exact Gd.snoc (by decide) (wg 1 (by decide))
    | 3 => exact (⟨by decide, by decide⟩ : Gd [97, 98, 99, 100, 101, 102, 103, 104, 105])
    | 4 => exact Gd.snoc (by decide) (wg 2 (by decide))
    | k + 5 => exact ⟨Nat.zero_le _, fun _ h => (by cases h)⟩
  have lim : ∀ ρ, e2 oAdd (eLst (aCons (eC (.int 9)) (aCons (eC (.int 5)) (aCons (eC (.int 9)) (aCons (eC (.int 9)) (aCons (eC (.int 8)) (aCons (eC (.int 5)) (aCons (eC (.int 9)) (aNil))))))))) (e2 oMul (eLst (aCons (eC (.int 13)) (aNil))) (eC (.int 8))) ρ = .ok (.lst (limP.map D.int)) := by
    intro ρ
    have ad : oAdd (.lst [.int 9, .int 5, .int 9, .int 9, .int 8, .int 5, .int 9]) (.lst ((List.replicate 8 (13 : Int)).map D.int)) = some (.lst ([.int 9, .int 5, .int 9, .int 9, .int 8, .int 5, .int 9] ++ (List.replicate 8 (13 : Int)).map D.int)) := p_addl (by rw [List.length_map, List.length_replicate]; show 7 + 8 ≤ 1000000; decide)
    have e5 : oMul (.lst [.int 13]) (.int 8) = some (.lst ((List.replicate 8 (13 : Int)).map D.int)) := mul_lst (x := 13) (j := 8) (by decide)
    rw [e2_ok (x := .lst [.int 9, .int 5, .int 9, .int 9, .int 8, .int 5, .int 9]) (y := .lst ((List.replicate 8 (13 : Int)).map D.int)) (by simp -implicitDefEqProofs (disch := (first | assumption | omega | (simp only [ngs]; done) | decide)) only [ev, R.bind_ok, R.bind_ex, R.st_ok, R.st_ex, R.of_some, List.length_map]) (e2_ok (x := .lst [.int 13]) (y := .int 8) (by simp -implicitDefEqProofs (disch := (first | assumption | omega | (simp only [ngs]; done) | decide)) only [ev, R.bind_ok, R.bind_ex, R.st_ok, R.st_ex, R.of_some, List.length_map]) rfl e5) ad]
    unfold limP
    rw [List.map_append]
    rfl
  have q0 : atD (stL ws) 0 = some (.str (S (ws.getD 0 []))) := at_eq (n := 0) (stL_at (by omega)) rfl
  have q1 : atD (stL ws) 1 = some (.str (S (ws.getD 1 []))) := at_eq (n := 1) (stL_at (by omega)) rfl
  have q2 : atD (stL ws) 2 = some (.str (S (ws.getD 2 []))) := at_eq (n := 2) (stL_at (by omega)) rfl
  have s1 : oAdd (.str "1") (.str (S (ws.getD 0 []))) = some (.str (S (49 :: ws.getD 0 []))) := by
    have := wl 0
    exact oAdd_S (a := [49]) (lineD_big (by show 1 + _ ≤ 1000000; omega))
  have s2 : oAdd (.str (S (ws.getD 1 []))) (.str "_") = some (.str (S (ws.getD 1 [] ++ [95]))) := by
    have := wl 1
    exact oAdd_S (b := [95]) (lineD_big (by show _ + 1 ≤ 1000000; omega))
  have s3 : oAdd (.str (S (ws.getD 2 []))) (.str " ") = some (.str (S (ws.getD 2 [] ++ [32]))) := by
    have := wl 2
    exact oAdd_S (b := [32]) (lineD_big (by show _ + 1 ≤ 1000000; omega))
  have bd : D.lst [.str "", .str (S (49 :: ws.getD 0 [])), .str (S (ws.getD 1 [] ++ [95])), .str "abcdefghi", .str (S (ws.getD 2 [] ++ [32]))] = .lst (stL (bdL ws)) := rfl
  have cm : ∀ a3 a4 a5 a6, compS (gVar 7) tYesD (e2 oIx (eVar 2) (eVar 7)) [7] [some (.val (.int c)), some (.val (.int s)), some (.val (.lst (stL ws))), a3, a4, a5, a6, none] ((List.range z).map fun i : Nat => .int i) = .ok (.lst (stL (ws.take z))) := by
    intro a3 a4 a5 a6
    rw [comp_map (fun i : Nat => .int i) (fun k => .str (S (ws.getD k []))) (by rw [List.length_range]; omega) rfl (fun k hk => by
      have hk := List.mem_range.mp hk
      have q := stL_at (ws := ws) (k := k) (by omega)
      unfold cStep
      simp -implicitDefEqProofs (disch := (first | assumption | omega | (simp only [ngs]; done) | decide)) only [ev, R.bind_ok, R.bind_ex, R.st_ok, R.st_ex, R.of_some, List.length_map, q, if_true])]
    congr 2
    apply List.ext_getElem
    · unfold stL; simp; omega
    · intro i h1 h2
      unfold stL
      rw [List.length_map, List.length_range] at h1
      simp [List.getD_eq_getElem?_getD, List.getElem?_eq_getElem (show i < ws.length by omega)]
  have ad2 : oAdd (.lst (stL ws)) (.lst (stL (bdL ws))) = some (.lst (stL (ws ++ bdL ws))) := by
    rw [p_addl (by rw [stL_len, stL_len, hl]; show 8 + 5 ≤ 1000000; decide), stL_app]
  have pool : ∀ k, Gd ((ws ++ bdL ws).getD k []) := fun k => by
    rw [List.getD_eq_getElem?_getD]
    by_cases h : k < ws.length
    · rw [List.getElem?_append_left h, ← List.getD_eq_getElem?_getD]
      exact wgd k
    · rw [List.getElem?_append_right (by omega), ← List.getD_eq_getElem?_getD]
      exact bdl _
  have cm2 : ∀ a5 a6, ∃ L, PtOk z L ∧ compS (gVar 7) tYesD (e2 oIx (e2 oAdd (eVar 2) (eVar 4)) (e2 oIx (eVar 3) (e2 oAdd (eC (.int 7)) (eVar 7)))) [7] [some (.val (.int c)), some (.val (.int s)), some (.val (.lst (stL ws))), some (.val (.lst (row.map D.int))), some (.val (.lst (stL (bdL ws)))), a5, a6, none] ((List.range z).map fun i : Nat => .int i) = .ok (.lst (stL L)) := by
    intro a5 a6
    have ch : ∀ k : Nat, ∃ v : Nat, k < 8 → atD (row.map D.int) (7 + (k : Int)) = some (.int v) ∧ v < 13 := fun k => by
      by_cases hk : k < 8
      · obtain ⟨v, h⟩ := dr k hk; exact ⟨v, fun _ => h⟩
      · exact ⟨0, fun h => absurd h hk⟩
    obtain ⟨vf, hvf⟩ := Classical.axiomOfChoice ch
    refine ⟨(List.range z).map fun k => (ws ++ bdL ws).getD (vf k) [], ⟨by simp, fun w hw => ?_⟩, ?_⟩
    · obtain ⟨k, _, rfl⟩ := List.mem_map.mp hw
      exact pool _
    · rw [comp_map (fun i : Nat => .int i) (fun k => .str (S ((ws ++ bdL ws).getD (vf k) []))) (by rw [List.length_range]; omega) rfl (fun k hk => by
        have hk := List.mem_range.mp hk
        obtain ⟨h1, h2⟩ := hvf k (by omega)
        have q := stL_at (ws := ws ++ bdL ws) (k := vf k) (by rw [List.length_append, hl]; exact h2)
        unfold cStep
        simp -implicitDefEqProofs (disch := (first | assumption | omega | (simp only [ngs]; done) | decide)) only [ev, R.bind_ok, R.bind_ex, R.st_ok, R.st_ex, R.of_some, List.length_map, h1, ↓ad2, q, if_true])]
      congr 2
      unfold stL
      rw [List.map_map]
      rfl
  have n9 : z < 1000000000 := by omega
  have tk : PtOk z (ws.take z) := ⟨by rw [List.length_take]; omega, fun w hw' => gd_W (hw.w w (List.mem_of_mem_take hw'))⟩
  have p13 := in_tupi r1 [1, 3]
  have p23 := in_tupi r1 [2, 3]
  have p13 : oIn (.int r1) (.tup [.int 1, .int 3]) = some (.bl (decide (r1 ∈ [(1 : Int), 3]))) := p13
  have p23 : oIn (.int r1) (.tup [.int 2, .int 3]) = some (.bl (decide (r1 ∈ [(2 : Int), 3]))) := p23
  let st : List Wd → DEnv := fun L => [some (.val (.int c)), some (.val (.int s)), some (.val (.lst (stL ws))), some (.val (.lst (row.map D.int))), some (.val (.lst (stL (bdL ws)))), some (.val (.int z)), some (.own (.lst (stL L))), none]
  have bv := stL_at (ws := bdL ws) (k := v) (by show v < 5; omega)
  have bu := stL_at (ws := ws) (k := u) (by omega)
  have put : ∀ (r : Int) (L : List Wd) (w : Wd), 0 < z → PtOk z L → Gd w → oMod (.int r) (.int z) = some (.int (r % z)) ∧ 0 ≤ r % z ∧ r % z < ((stL L).length : Int) := fun r L w h0 hL hw => by
    refine ⟨p_mod (by omega), Int.emod_nonneg _ (by omega), ?_⟩
    rw [stL_len, hL.l]
    exact Int.emod_lt_of_pos _ (by omega)
  have f1 : ∀ L, PtOk z L → ∃ L1, PtOk z L1 ∧ sIf (tAndD (tVal (e2 oIn (e2 oIx (eVar 3) (eC (.int 1))) (eTup (aCons (eC (.int 1)) (aCons (eC (.int 3)) (aNil)))))) (tVal (e2 oGt (eVar 5) (eC (.int 0))))) (sPutL 6 (e2 oMod (e2 oIx (eVar 3) (eC (.int 2))) (eVar 5)) (e2 oIx (eVar 4) (e2 oIx (eVar 3) (eC (.int 5))))) (sNext) (st L) = .ok (.nx (st L1)) := by
    intro L hL
    by_cases h1 : decide (r1 ∈ [(1 : Int), 3]) = true
    · rw [h1] at p13
      by_cases h2 : 0 < z
      · obtain ⟨m1, m2, m3⟩ := put r2 L _ h2 hL (bdl v)
        have d1 : decide ((0 : Int) < z) = true := decide_eq_true (by omega)
        refine ⟨_, hL.set (i := (r2 % z).toNat) (bdl v), ?_⟩
        simp -implicitDefEqProofs (disch := (first | assumption | omega | (simp only [ngs]; done) | decide)) only [ev, ev2, R.bind_ok, R.bind_ex, R.st_ok, R.st_ex, R.of_some, List.length_map, x1, ↓p13, d1, x5, bv, x2, m1, plj_i m2 m3, st, stL_set]
      · have d1 : decide ((0 : Int) < z) = false := decide_eq_false (by omega)
        exact ⟨L, hL, by simp -implicitDefEqProofs (disch := (first | assumption | omega | (simp only [ngs]; done) | decide)) only [ev, ev2, R.bind_ok, R.bind_ex, R.st_ok, R.st_ex, R.of_some, List.length_map, x1, ↓p13, d1, st]⟩
    · rw [Bool.not_eq_true] at h1
      rw [h1] at p13
      exact ⟨L, hL, by simp -implicitDefEqProofs (disch := (first | assumption | omega | (simp only [ngs]; done) | decide)) only [ev, ev2, R.bind_ok, R.bind_ex, R.st_ok, R.st_ex, R.of_some, List.length_map, x1, ↓p13, st]⟩
  have f2 : ∀ L, PtOk z L → ∃ L1, PtOk z L1 ∧ sIf (tAndD (tVal (e2 oIn (e2 oIx (eVar 3) (eC (.int 1))) (eTup (aCons (eC (.int 2)) (aCons (eC (.int 3)) (aNil)))))) (tVal (e2 oGt (eVar 5) (eC (.int 0))))) (sPutL 6 (e2 oMod (e2 oIx (eVar 3) (eC (.int 3))) (eVar 5)) (e2 oIx (eVar 2) (e2 oIx (eVar 3) (eC (.int 4))))) (sNext) (st L) = .ok (.nx (st L1)) := by
    intro L hL
    have wu : Gd (ws.getD u []) := wgd u
    by_cases h1 : decide (r1 ∈ [(2 : Int), 3]) = true
    · rw [h1] at p23
      by_cases h2 : 0 < z
      · obtain ⟨m1, m2, m3⟩ := put r3 L _ h2 hL wu
        have d1 : decide ((0 : Int) < z) = true := decide_eq_true (by omega)
        refine ⟨_, hL.set (i := (r3 % z).toNat) wu, ?_⟩
        simp -implicitDefEqProofs (disch := (first | assumption | omega | (simp only [ngs]; done) | decide)) only [ev, ev2, R.bind_ok, R.bind_ex, R.st_ok, R.st_ex, R.of_some, List.length_map, x1, ↓p23, d1, x4, bu, x3, m1, plj_i m2 m3, st, stL_set]
      · have d1 : decide ((0 : Int) < z) = false := decide_eq_false (by omega)
        exact ⟨L, hL, by simp -implicitDefEqProofs (disch := (first | assumption | omega | (simp only [ngs]; done) | decide)) only [ev, ev2, R.bind_ok, R.bind_ex, R.st_ok, R.st_ex, R.of_some, List.length_map, x1, ↓p23, d1, st]⟩
    · rw [Bool.not_eq_true] at h1
      rw [h1] at p23
      exact ⟨L, hL, by simp -implicitDefEqProofs (disch := (first | assumption | omega | (simp only [ngs]; done) | decide)) only [ev, ev2, R.bind_ok, R.bind_ex, R.st_ok, R.st_ex, R.of_some, List.length_map, x1, ↓p23, st]⟩
  have f3 : ∀ L, PtOk z L → ∃ L1, PtOk z L1 ∧ sIf (tVal (e2 oEq (e2 oIx (eVar 3) (eC (.int 1))) (eC (.int 4)))) (sOwn 6 (eComp (iRange (eVar 5)) [7] (gVar 7) (tYesD) (e2 oIx (e2 oAdd (eVar 2) (eVar 4)) (e2 oIx (eVar 3) (e2 oAdd (eC (.int 7)) (eVar 7)))))) (sNext) (st L) = .ok (.nx (st L1)) := by
    intro L hL
    by_cases h1 : r1 = 4
    · obtain ⟨L1, h2, h3⟩ := cm2 (some (.val (.int z))) (some (.own (.lst (stL L))))
      have d1 : decide (r1 = 4) = true := decide_eq_true h1
      exact ⟨L1, h2, by simp -implicitDefEqProofs (disch := (first | assumption | omega | (simp only [ngs]; done) | decide)) only [ev, ev2, R.bind_ok, R.bind_ex, R.st_ok, R.st_ex, R.of_some, List.length_map, x1, d1, h3, st]⟩
    · have d1 : decide (r1 = 4) = false := decide_eq_false h1
      exact ⟨L, hL, by simp -implicitDefEqProofs (disch := (first | assumption | omega | (simp only [ngs]; done) | decide)) only [ev, ev2, R.bind_ok, R.bind_ex, R.st_ok, R.st_ex, R.of_some, List.length_map, x1, d1, st]⟩
  obtain ⟨L1, h1, e1⟩ := f1 _ tk
  obtain ⟨L2, h2, e2⟩ := f2 _ h1
  obtain ⟨L3, h3, e3⟩ := f3 _ h2
  have m6 : oMod (.int r6) (.int ((z : Int) + 1)) = some (.int (r6 % ((z : Int) + 1))) := p_mod (by omega)
  have m7 := Int.emod_nonneg r6 (show (z : Int) + 1 ≠ 0 by omega)
  have m8 := Int.emod_lt_of_pos r6 (show (0 : Int) < (z : Int) + 1 by omega)
  refine ⟨z, L3, (r6 % ((z : Int) + 1)).toNat, by omega, h3, by omega, ?_⟩
  have ek : (((r6 % ((z : Int) + 1)).toNat : Nat) : Int) = r6 % ((z : Int) + 1) := by omega
  rw [ek, e_law_parts]
  unfold b_law_parts
  dsimp only [st] at e1 e2 e3
  simp -implicitDefEqProofs (disch := (first | assumption | omega | (simp only [ngs]; done) | decide)) only [ev, ev2, R.bind_ok, R.bind_ex, R.st_ok, R.st_ex, R.of_some, List.length_map, ↓lim, hrow, x0, q0, q1, q2, ↓s1, ↓s2, ↓s3, ↓bd, cm, ↓e1, ↓e2, ↓e3, x6, m6]
end Tw

set_option maxHeartbeats 2000000
namespace Tw
open PySem
section
variable {P : List Pn} {m mi t : Nat} {T : List (List Nat)}
theorem BkW.flat {α : Type} {f g : α → List Nat} : ∀ {rs : List α}, (∀ r ∈ rs, BkW (f r) (g r)) → BkW (rs.flatMap f) (rs.flatMap g)
  | [], _ => BkT.nil.toBkW
  | r :: rs, h => by
    rw [List.flatMap_cons, List.flatMap_cons]
    exact (h r List.mem_cons_self).app2 (BkW.flat fun x hx => h x (List.mem_cons_of_mem _ hx))
end
end Tw

set_option maxHeartbeats 2000000
namespace Tw
open PySem
end Tw

set_option maxHeartbeats 2000000
namespace Tw
open PySem
section
variable {P : List Pn} {m mi t s : Nat} {T : List (List Nat)} {ws lb : List Wd}
theorem DLs.app {ds es : List D} {rs qs : List Dr} (h : DLs ds rs) (k : DLs es qs) : DLs (ds ++ es) (rs ++ qs) := by
  induction h with
  | nil => exact k
  | cons a b _ ih => exact .cons a b ih
end
end Tw

set_option maxHeartbeats 2000000
namespace Tw
open PySem
theorem words_ok {s : Int} (s0 : 0 ≤ s) {n : Nat} (hn : n ≤ 62) : ∃ ws : List Wd, Wds ws ∧ ws.length = n ∧ ∀ k, k < n → d_law_word [.int s, .int k] = .ok (.str (S (ws.getD k []))) := by
  obtain ⟨f, b, z, t, hf, hb, hwd⟩ := law_word_ok s s0
  obtain ⟨hw, hwl⟩ := lws_ok (z := z) (t := t) hf hb hn
  refine ⟨lws f b z t n, hw, hwl, fun k hk => ?_⟩
  rw [hwd k (by omega)]
  have : (lws f b z t n).getD k [] = wordL f b z t k := by
    unfold lws
    rw [List.getD_eq_getElem?_getD, List.getElem?_map, List.getElem?_range hk]; rfl
  rw [this]
theorem word_comp {s : Int} {n : Nat} {ws : List Wd} (hwl : ws.length = n) (hn : n ≤ 1000) (h : ∀ k, k < n → d_law_word [.int s, .int k] = .ok (.str (S (ws.getD k [])))) {e : DE} {j : Nat} {ρ : DEnv}
    (ho : okW [j] ρ = true) (hs : ∀ x, ∃ ρ2, gVar j x (wipD [j] ρ) = .ok ρ2 ∧ e ρ2 = .ok (.int s) ∧ eVar j ρ2 = .ok x) :
    compS (gVar j) tYesD (eCall d_law_word (aCons e (aCons (eVar j) aNil))) [j] ρ ((List.range n).map fun i : Nat => .int i) = .ok (.lst (stL ws)) := by
  have e1 : stL ws = (List.range n).map fun k => .str (S (ws.getD k [])) := by
    refine List.ext_getElem? fun i => ?_
    by_cases hi : i < n
    · rw [stL_at (by omega), List.getElem?_map, List.getElem?_range hi]; rfl
    · rw [List.getElem?_eq_none (by rw [stL_len]; omega), List.getElem?_eq_none (by simp; omega)]
  rw [e1, comp_map (fun i : Nat => .int i) (fun k => .str (S (ws.getD k []))) (by rw [List.length_range]; omega) ho (fun k hk => by
    obtain ⟨ρ2, h1, h2, h3⟩ := hs (.int k)
    have := h k (List.mem_range.mp hk)
    unfold cStep
    rw [h1]
    simp -implicitDefEqProofs (disch := (first | assumption | omega | (simp only [ngs]; done) | decide)) only [ev, R.bind_ok, R.bind_ex, R.st_ok, R.st_ex, R.of_some, List.length_map, h2, h3, this, if_true])]
section
variable {ws lb nm : List Wd} {P : List Pn} {n k : Nat}
theorem noLs_stL (l : List Wd) : noLs (stL l) = true := by
  rw [noLs_all, List.all_eq_true]
  intro d hd
  obtain ⟨w, _, rfl⟩ := List.mem_map.mp hd
  rfl
theorem noLs_bs (bs : List BS) : noLs (bs.map bD) = true := by
  rw [noLs_all, List.all_eq_true]
  intro d hd
  obtain ⟨w, _, rfl⟩ := List.mem_map.mp hd
  rfl
theorem noL_dr (r : Dr) : noL (drD r) = true := by
  unfold drD
  simp [noL, noLs, noLs_stL, noLs_bs]
end
end Tw

namespace Tw
open PySem
end Tw

set_option maxHeartbeats 2000000
namespace Tw
open PySem
theorem deqL_of : ∀ {l : List D}, (∀ d ∈ l, deq d d = true) → deqL l l = true
  | [], _ => rfl
  | d :: l, h => by
    have h1 := h d List.mem_cons_self
    have h2 := deqL_of fun x hx => h x (List.mem_cons_of_mem d hx)
    simp [deqL, h1, h2]
theorem deq_self : ∀ (k : Nat) (d : D), shp k d = true → deq d d = true := by
  intro k
  induction k with
  | zero => intro d h; cases d <;> first | (simp [deq]; done) | (simp [shp] at h)
  | succ k ih =>
    intro d h
    cases d with
    | lst l =>
      have h : l.all (shp k) = true := h
      have := deqL_of (l := l) fun x hx => ih x (List.all_eq_true.mp h x hx)
      simpa [deq] using this
    | tup l =>
      have h : l.all (shp k) = true := h
      have := deqL_of (l := l) fun x hx => ih x (List.all_eq_true.mp h x hx)
      simpa [deq] using this
    | _ => first | (simp [deq]; done) | (simp [shp] at h)
theorem ne_self {d : D} (h : shp 60 d = true) : oNe d d = some (.bl false) := by
  unfold oNe eqD
  rw [deq_self 60 d h, h]
  by_cases s : scalD d d = true
  · rw [if_pos s]; rfl
  · rw [if_neg s]; rfl
theorem eq_self {d : D} (h : shp 60 d = true) : oEq d d = some (.bl true) := by
  unfold oEq eqD
  rw [deq_self 60 d h, h]
  by_cases s : scalD d d = true
  · rw [if_pos s]; rfl
  · rw [if_neg s]; rfl
end Tw

set_option maxHeartbeats 2000000
namespace Tw
open PySem
end Tw

set_option maxHeartbeats 2000000
namespace Tw
open PySem
end Tw

set_option maxHeartbeats 2000000
namespace Tw
open PySem
def Smn (n : Nat) (l : Wd) : Prop := l.length ≤ n ∧ ∀ c ∈ l, c < 256
theorem Smn.gd {n : Nat} {l : Wd} (h : Smn n l) (hn : n ≤ 100) : Gd l := ⟨by have := h.1; omega, fun c hc => by have := h.2 c hc; omega⟩
theorem titled_bad {s : D} {w : Wd} (hl : w.length ≤ 1000) (h : isW w = false) : d_Titled_init s [.str (S w)] = .ex ⟨"InvalidWord", ["word"], [.str (S w)]⟩ := by
  have iw := is_word_ok w hl
  rw [h] at iw
  rw [e_Titled_init]
  unfold b_Titled_init
  simp -implicitDefEqProofs (disch := (first | assumption | omega | (simp only [ngs]; done) | decide)) only [ev, R.bind_ok, R.bind_ex, R.st_ok, R.st_ex, R.of_some, List.length_map, iw]
  rfl
end Tw

namespace Tw
open PySem
section
variable {ρ ρ' : DEnv} {a b k e : DE} {b0 s t : DS} {d v : D} {i j n : Nat} {o : Option Slot} {l : List D} {m : List Bool} {c : DT} {cl : List Nat}
theorem km_t : keepM (true :: m) (o :: ρ) = keep1 o :: keepM m ρ := rfl
theorem km_f : keepM (false :: m) (o :: ρ) = none :: keepM m ρ := rfl
theorem km_n : keepM [] (o :: ρ) = none :: keepM [] ρ := rfl
theorem km_0 : keepM m [] = [] := by cases m with | nil => rfl | cons b m => cases b <;> rfl
theorem k1_v : keep1 (some (.val d)) = some (.val d) := rfl
theorem k1_o : keep1 (some (.own d)) = some (.own d) := rfl
theorem k1_n : keep1 none = none := rfl
theorem se_n : subE [] = [] := rfl
theorem se_v : subE (some (.val d) :: ρ) = subD d ++ subE ρ := rfl
theorem se_o : subE (some (.own d) :: ρ) = subDs [d] ++ subE ρ := rfl
theorem se_0 : subE (none :: ρ) = subE ρ := rfl
/-- the def's own where the test holds -/
def ownXS (i : Nat) (k : List (List D)) (ρ : DEnv) (d : D) : R Out := match d with
  | .lst l => if (subDs l ++ k).all (neL l) then (setO i (.lst l) ρ).bind fun ρ' => .ok (.nx ρ') else (setV i (.lst l) ρ).bind fun ρ' => .ok (.nx ρ')
  | d => (setV i d ρ).bind fun ρ' => .ok (.nx ρ')
theorem q_ownX : sOwnX i m e ρ = (e (keepM m ρ)).st ρ (ownXS i (subE (keepM m ρ)) ρ) := rfl
theorem ox_n {k : List (List D)} : ownXS i k ρ .non = (setV i .non ρ).bind fun ρ' => .ok (.nx ρ') := rfl
theorem ox_t {k : List (List D)} : ownXS i k ρ (.tup l) = (setV i (.tup l) ρ).bind fun ρ' => .ok (.nx ρ') := rfl
def clrE (i : Nat) (ρ : DEnv) (o : Option Slot) : R Out := match o with
  | some (.own (.lst _)) => .ok (.nx (ρ.set i (some (.own (.lst [])))))
  | some (.val (.lst [])) => .ok (.nx ρ)
  | _ => .no
theorem q_clrE : sClearE i ρ = clrE i ρ (getO i ρ) := by
  unfold sClearE clrE getO
  cases h : ρ[i]? with
  | none => rfl
  | some o => cases o with
    | none => rfl
    | some o => cases o <;> first | rfl | (rename_i d; cases d <;> first | rfl | (rename_i l; cases l <;> rfl))
theorem ce_o : clrE i ρ (some (.own (.lst l))) = .ok (.nx (ρ.set i (some (.own (.lst []))))) := rfl
theorem ce_v : clrE i ρ (some (.val (.lst []))) = .ok (.nx ρ) := rfl
/-- y = x.pop() -/
def popS (i j : Nat) (ρ : DEnv) (o : Option Slot) : R Out := match o with
  | some (.own (.lst l)) => match l.getLast? with
    | some x => (setV i x (ρ.set j (some (.own (.lst l.dropLast))))).bind fun ρ' => .ok (.nx ρ')
    | none => .no
  | _ => .no
theorem q_pop : sPop i j ρ = popS i j ρ (getO j ρ) := by
  unfold sPop popS getO
  cases h : ρ[j]? with
  | none => rfl
  | some o => cases o with
    | none => rfl
    | some o => cases o <;> first | rfl | (rename_i d; cases d <;> rfl)
theorem pop_o {x : D} : popS i j ρ (some (.own (.lst (l ++ [x])))) = (setV i x (ρ.set j (some (.own (.lst l))))).bind fun ρ' => .ok (.nx ρ') := by
  unfold popS
  simp only [List.getLast?_append, List.getLast?_singleton, Option.some_or, List.dropLast_concat]
/-- the turn of a while -/
def whS (c : DT) (cl : List Nat) (b : DS) (n : Nat) (r : R Out) : R Out := match r with
  | .ok (.nx ρ') => whileL c cl b n (clrD cl ρ')
  | .ok (.ct ρ') => whileL c cl b n (clrD cl ρ')
  | .ok (.bk ρ') => .ok (.nx ρ')
  | r => r
def whK (c : DT) (cl : List Nat) (b : DS) (n : Nat) (ρ : DEnv) (k : Bool) : R Out := if k then whS c cl b n (b ρ) else .ok (.nx ρ)
theorem q_while : sWhile n c cl s ρ = whileL c cl s n (clrD cl ρ) := rfl
theorem wk_f : whK c cl s n ρ false = .ok (.nx ρ) := rfl
theorem wk_t : whK c cl s n ρ true = whS c cl s n (s ρ) := rfl
theorem ws_nx : whS c cl s n (.ok (.nx ρ)) = whileL c cl s n (clrD cl ρ) := rfl
theorem ws_ct : whS c cl s n (.ok (.ct ρ)) = whileL c cl s n (clrD cl ρ) := rfl
theorem ws_bk : whS c cl s n (.ok (.bk ρ)) = .ok (.nx ρ) := rfl
theorem ws_rt : whS c cl s n (.ok (.rt d ρ)) = .ok (.rt d ρ) := rfl
def revS (x : D) : R (List D) := match x with
  | .lst l => .ok l.reverse
  | _ => .no
theorem q_rev : iRev a ρ = (a ρ).bind revS := rfl
theorem rv_l : revS (.lst l) = .ok l.reverse := rfl
def dcS (g : DG) (c : DT) (ke ve : DE) (vs : List Nat) (ρ : DEnv) (l : List D) : R D := if l.length ≤ lineD ∧ okW vs ρ = true then (dcL g c ke ve (wipD vs ρ) l [] []).bind fun z => .ok (.dct z.1 z.2) else .no
theorem q_dcomp {it : DI} {g : DG} {ke ve : DE} {vs : List Nat} : eDComp it vs g c ke ve ρ = (it ρ).bind (dcS g c ke ve vs ρ) := rfl
/-- raise cn(..) -/
def raS (cn : String) (fs : List Str) (ρ : DEnv) (xs : List D) : R Out := if xs.length = fs.length then .ok (.xx ⟨cn, fs.reverse, xs.reverse⟩ ρ) else .no
theorem q_rais3 {cn : String} {fs : List Str} {as : DA} : sRaise cn fs as ρ = (as ρ).st ρ (raS cn fs ρ) := rfl
theorem ra_1 {cn : String} {f : Str} {x : D} : raS cn [f] ρ [x] = .ok (.xx ⟨cn, [f], [x]⟩ ρ) := rfl
theorem ra_2 {cn : String} {f g : Str} {x y : D} : raS cn [f, g] ρ [x, y] = .ok (.xx ⟨cn, [g, f], [y, x]⟩ ρ) := rfl
theorem ra_3 {cn : String} {f g h : Str} {x y z : D} : raS cn [f, g, h] ρ [x, y, z] = .ok (.xx ⟨cn, [h, g, f], [z, y, x]⟩ ρ) := rfl
theorem sT9 {mk : List D → D} {x0 x1 x2 x3 x4 x5 x6 x7 x8 : D} : seqS mk [x0, x1, x2, x3, x4, x5, x6, x7, x8] = .ok (mk [x0, x1, x2, x3, x4, x5, x6, x7, x8]) := if_pos (by show 9 ≤ lineD; decide)
theorem sT10 {mk : List D → D} {x0 x1 x2 x3 x4 x5 x6 x7 x8 x9 : D} : seqS mk [x0, x1, x2, x3, x4, x5, x6, x7, x8, x9] = .ok (mk [x0, x1, x2, x3, x4, x5, x6, x7, x8, x9]) := if_pos (by show 10 ≤ lineD; decide)
theorem sT11 {mk : List D → D} {x0 x1 x2 x3 x4 x5 x6 x7 x8 x9 x10 : D} : seqS mk [x0, x1, x2, x3, x4, x5, x6, x7, x8, x9, x10] = .ok (mk [x0, x1, x2, x3, x4, x5, x6, x7, x8, x9, x10]) := if_pos (by show 11 ≤ lineD; decide)
theorem sT12 {mk : List D → D} {x0 x1 x2 x3 x4 x5 x6 x7 x8 x9 x10 x11 : D} : seqS mk [x0, x1, x2, x3, x4, x5, x6, x7, x8, x9, x10, x11] = .ok (mk [x0, x1, x2, x3, x4, x5, x6, x7, x8, x9, x10, x11]) := if_pos (by show 12 ≤ lineD; decide)
theorem sT13 {mk : List D → D} {x0 x1 x2 x3 x4 x5 x6 x7 x8 x9 x10 x11 x12 : D} : seqS mk [x0, x1, x2, x3, x4, x5, x6, x7, x8, x9, x10, x11, x12] = .ok (mk [x0, x1, x2, x3, x4, x5, x6, x7, x8, x9, x10, x11, x12]) := if_pos (by show 13 ≤ lineD; decide)
theorem sT14 {mk : List D → D} {x0 x1 x2 x3 x4 x5 x6 x7 x8 x9 x10 x11 x12 x13 : D} : seqS mk [x0, x1, x2, x3, x4, x5, x6, x7, x8, x9, x10, x11, x12, x13] = .ok (mk [x0, x1, x2, x3, x4, x5, x6, x7, x8, x9, x10, x11, x12, x13]) := if_pos (by show 14 ≤ lineD; decide)
def ev3 := And.intro @sT9 <| And.intro @sT10 <| And.intro @sT11 <| And.intro @sT12 <| And.intro @sT13 <| And.intro @sT14 <| And.intro @q_rais3 <| And.intro @ra_1 <| And.intro @ra_2 <| And.intro @ra_3 <| And.intro @q_rev <| And.intro @rv_l <| And.intro @q_dcomp <| And.intro @km_t <| And.intro @km_f <| And.intro @km_n <| And.intro @km_0 <| And.intro @k1_v <| And.intro @k1_o <| And.intro @k1_n <| And.intro @se_n <| And.intro @se_v <| And.intro @se_o <| And.intro @se_0 <| And.intro @q_ownX <| And.intro @ox_n <| And.intro @ox_t <| And.intro @q_clrE <| And.intro @ce_o <| And.intro @ce_v <| And.intro @q_pop <| And.intro @pop_o <| And.intro @q_while <| And.intro @wk_f <| And.intro @wk_t <| And.intro @ws_nx <| And.intro @ws_ct <| And.intro @ws_bk @ws_rt
end
end Tw

namespace Tw
open PySem
end Tw

namespace Tw
open PySem
section
variable {i j : Nat} {ρ ρ' : DEnv} {o x : Option Slot} {d d1 : D} {F : DS} {G G1 G2 : DH} {is : List Nat} {f1 f2 : DE} {L y : List D} {α : Type} {a b : α} {e : Ex}
theorem gq_z : (o :: ρ)[0]? = some o := rfl
theorem gq_s : (o :: ρ)[i + 1]? = ρ[i]? := rfl
theorem gs_z : (o :: ρ).set 0 x = x :: ρ := rfl
theorem gs_s : (o :: ρ).set (i + 1) x = o :: ρ.set i x := rfl
theorem vp_z : eVar 0 (some (.pin d) :: ρ) = .ok d := rfl
theorem np_n : noPtr [] = true := rfl
theorem np_z : noPtr (none :: ρ) = noPtr ρ := rfl
theorem np_v : noPtr (some (.val d) :: ρ) = noPtr ρ := rfl
theorem np_o : noPtr (some (.own d) :: ρ) = noPtr ρ := rfl
theorem ps_z : ptrAt 0 (some .ptr :: ρ) = noPtr ρ := rfl
theorem ps_n : ptrAt (i + 1) (none :: ρ) = ptrAt i ρ := rfl
theorem ps_v : ptrAt (i + 1) (some (.val d) :: ρ) = ptrAt i ρ := rfl
theorem ps_o : ptrAt (i + 1) (some (.own d) :: ρ) = ptrAt i ρ := rfl
theorem em_z : empAt 0 (none :: ρ) = true := rfl
theorem em_s : empAt (i + 1) (o :: ρ) = empAt i ρ := rfl
theorem sl_eq {s : Option (Option Slot)} : (s = s) = True := _root_.eq_self s
theorem tt_and : (True ∧ True) = True := _root_.and_self True
theorem it_t : (if True then a else b) = a := if_pos trivial
theorem bt_t : (true = true) = True := _root_.eq_self true
theorem lt_T (h : L.length < 1000000) : (if L.length < lineD then a else b) = a := if_pos (Nat.lt_trans h (by decide))
theorem ic_t : iteC True a b = a := iteC_pos trivial
theorem q_liP : liftP i F ρ = chkP i ρ (F ρ) := rfl
theorem ck_nx : chkP i ρ (.ok (.nx ρ')) = iteC (ρ'[i]? = ρ[i]? ∧ noPtr (ρ'.set i none) = true) (.ok (.nx ρ')) .no := rfl
theorem ck_bk : chkP i ρ (.ok (.bk ρ')) = iteC (ρ'[i]? = ρ[i]? ∧ noPtr (ρ'.set i none) = true) (.ok (.bk ρ')) .no := rfl
theorem ck_rt : chkP i ρ (.ok (.rt d ρ')) = iteC (ρ'[i]? = ρ[i]? ∧ noPtr (ρ'.set i none) = true) (.ok (.rt d ρ')) .no := rfl
def R.tpS (r : R D) (i : Nat) (F : DS) (ρ : DEnv) : R Out := match r with
  | .ok d => if empAt i ρ = true ∧ noPtr ρ = true then outP i (F (ρ.set i (some (.pin d)))) else .no
  | _ => .no
theorem q_trP {f : DE} : treeP i f F ρ = (f ρ).tpS i F ρ := by unfold treeP R.tpS; cases f ρ <;> rfl
theorem tp_ok : (R.ok d).tpS i F ρ = if empAt i ρ = true ∧ noPtr ρ = true then outP i (F (ρ.set i (some (.pin d)))) else .no := rfl
theorem op_rt : outP i (.ok (.rt d ρ)) = .ok (.rt d (unp i ρ)) := rfl
theorem q_sqH : seqH G1 G2 ρ d = (G1 ρ d).bind fun p => G2 p.1 p.2 := rfl
theorem q_nxH : nextH ρ d = .ok (ρ, d) := rfl
def R.lhS (r : R Out) (i : Nat) (d : D) : R (DEnv × D) := match r with
  | .ok (.nx ρ') => if ptrAt i ρ' = true then .ok (ρ', d) else .no
  | _ => .no
theorem q_liH : liftH i F ρ d = (F ρ).lhS i d := by
  unfold liftH R.lhS
  cases F ρ with
  | ok o => cases o <;> rfl
  | _ => rfl
theorem lh_nx : (R.ok (Out.nx ρ')).lhS i d = if ptrAt i ρ' = true then .ok (ρ', d) else .no := rfl
def apS (ρ : DEnv) (L : List D) (d1 : D) : D → R (DEnv × D)
  | .lst x => .ok (ρ, .lst (L ++ [.lst [d1, .lst x]]))
  | _ => .no
theorem q_apH : appH i is f1 f2 ρ (.lst L) = if L.length < lineD then (if ptrAt i (frzL is ρ) = true then (f1 (frzL is ρ)).bind fun d1 => (f2 (frzL is ρ)).bind fun d2 => apS (frzL is ρ) L d1 d2 else .no) else .no := by
  unfold appH frzL
  simp only
  by_cases h1 : L.length < lineD
  · rw [if_pos h1]
    by_cases h2 : ptrAt i (is.foldl (fun r i => frzD i r) ρ) = true
    · rw [if_pos h2, if_pos ⟨h1, h2⟩]
      cases f1 (is.foldl (fun r i => frzD i r) ρ) with
      | ok d1 =>
        simp only [R.bind_ok]
        cases f2 (is.foldl (fun r i => frzD i r) ρ) with
        | ok d2 => simp only [R.bind_ok]; cases d2 <;> rfl
        | _ => rfl
      | _ => rfl
    · rw [if_neg h2, if_neg fun h => h2 h.2]
  · rw [if_neg h1, if_neg fun h => h1 h.1]
theorem ap_s : apS ρ L d1 (.lst y) = .ok (ρ, .lst (L ++ [.lst [d1, .lst y]])) := rfl
theorem q_foH {fi : DI} {g : DG} : forH i fi g is G ρ d = (fi ρ).bind fun l => if ptrAt i (clrD is ρ) = true then forHL i g is G l (clrD is ρ) d else .no := rfl
theorem fh_n {g : DG} : forHL i g is G [] ρ d = .ok (ρ, d) := rfl
end
def ev6 := And.intro @gq_z <| And.intro @gq_s <| And.intro @gs_z <| And.intro @gs_s <| And.intro @vp_z <| And.intro @np_n <| And.intro @np_z <| And.intro @np_v <| And.intro @np_o <| And.intro @ps_z <| And.intro @ps_n <| And.intro @ps_v <| And.intro @ps_o <| And.intro @em_z <| And.intro @em_s <| And.intro @ic_t <| And.intro @q_liP <| And.intro @ck_nx <| And.intro @ck_bk <| And.intro @ck_rt <| And.intro @q_trP <| And.intro @tp_ok <| And.intro @op_rt <| And.intro @q_sqH <| And.intro @q_nxH <| And.intro @q_liH <| And.intro @lh_nx <| And.intro @q_apH <| And.intro @ap_s <| And.intro @q_foH <| And.intro @fh_n <| And.intro @sl_eq <| And.intro @tt_and <| And.intro @bt_t <| And.intro @lt_T @it_t
end Tw

namespace Tw
open PySem
section
variable {i j : Nat} {ρ ρ' : DEnv} {o x : Option Slot} {d d1 w v : D} {F : DS} {G G1 G2 : DV} {is : List Nat} {f1 f2 fe : DE} {fs : DA} {L y xs : List D} {gc : DT} {fi : DI} {g : DG} {e : Ex} {den : List D → D → R D} {k : DEnv → R OutV} {kk : DV} {α : Type} {a b : α}
theorem kp_z : eLook 0 (some (.pin d) :: ρ) = .ok d := rfl
def R.sqV (r : R OutV) (G2 : DV) : R OutV := match r with
  | .ok (.nx ρ' d') => G2 ρ' d'
  | r => r
theorem q_sqV : seqV G1 G2 ρ d = (G1 ρ d).sqV G2 := rfl
theorem sqv_nx : (R.ok (OutV.nx ρ d)).sqV G2 = G2 ρ d := rfl
theorem sqv_rt : (R.ok (OutV.rt v ρ d)).sqV G2 = .ok (.rt v ρ d) := rfl
theorem sqv_tt : (R.ok (OutV.tt ρ d)).sqV G2 = .ok (.tt ρ d) := rfl
theorem sqv_bk : (R.ok (OutV.bk ρ d)).sqV G2 = .ok (.bk ρ d) := rfl
theorem sqv_ct : (R.ok (OutV.ct ρ d)).sqV G2 = .ok (.ct ρ d) := rfl
theorem sqv_xx : (R.ok (OutV.xx e ρ d)).sqV G2 = .ok (.xx e ρ d) := rfl
def R.lvS (r : R Out) (i : Nat) (d : D) : R OutV := match r with
  | .ok (.nx ρ') => if ptrAt i ρ' = true then .ok (.nx ρ' d) else .no
  | .ok (.rt x ρ') => if ptrAt i ρ' = true then .ok (.rt x ρ' d) else .no
  | .ok (.bk ρ') => if ptrAt i ρ' = true then .ok (.bk ρ' d) else .no
  | .ok (.ct ρ') => if ptrAt i ρ' = true then .ok (.ct ρ' d) else .no
  | .ok (.xx e ρ') => if ptrAt i ρ' = true then .ok (.xx e ρ' d) else .no
  | _ => .no
theorem q_liV : liftV i F ρ d = (F ρ).lvS i d := by
  unfold liftV R.lvS
  cases F ρ with
  | ok o => cases o <;> rfl
  | _ => rfl
theorem lv_nx : (R.ok (Out.nx ρ')).lvS i d = if ptrAt i ρ' = true then .ok (.nx ρ' d) else .no := rfl
theorem lv_rt : (R.ok (Out.rt v ρ')).lvS i d = if ptrAt i ρ' = true then .ok (.rt v ρ' d) else .no := rfl
theorem lv_bk : (R.ok (Out.bk ρ')).lvS i d = if ptrAt i ρ' = true then .ok (.bk ρ' d) else .no := rfl
theorem lv_ct : (R.ok (Out.ct ρ')).lvS i d = if ptrAt i ρ' = true then .ok (.ct ρ' d) else .no := rfl
theorem lv_xx : (R.ok (Out.xx e ρ')).lvS i d = if ptrAt i ρ' = true then .ok (.xx e ρ' d) else .no := rfl
theorem q_nxV : nextV ρ d = .ok (.nx ρ d) := rfl
theorem q_giV : giveV ρ d = .ok (.tt ρ d) := rfl
theorem q_vw : vw i ρ d = ρ.set i (some (.pin d)) := rfl
def R.ivS (r : R Bool) (G1 G2 : DV) (ρ : DEnv) (d : D) : R OutV := match r with
  | .ok true => G1 ρ d
  | .ok false => G2 ρ d
  | _ => .no
theorem q_ifV : ifV i gc G1 G2 ρ d = (gc (vw i ρ d)).ivS G1 G2 ρ d := rfl
theorem iv_t : (R.ok true).ivS G1 G2 ρ d = G1 ρ d := rfl
theorem iv_f : (R.ok false).ivS G1 G2 ρ d = G2 ρ d := rfl
def R.avS (r : R D) (ρ : DEnv) (L : List D) : R OutV := match r with
  | .ok w => if noL w = true then .ok (.nx ρ (.lst (L ++ [w]))) else .no
  | _ => .no
theorem q_apV : appV i fe ρ (.lst L) = if L.length < lineD then (fe (vw i ρ (.lst L))).avS ρ L else .no := rfl
theorem av_ok : (R.ok w).avS ρ L = if noL w = true then .ok (.nx ρ (.lst (L ++ [w]))) else .no := rfl
def R.alS (r : R (List D)) (ρ : DEnv) (L : List D) : R OutV := match r with
  | .ok xs => if xs.length ≤ lineD then .ok (.nx ρ (.lst (L ++ [.lst xs]))) else .no
  | _ => .no
theorem q_apL : appLV fs ρ (.lst L) = if L.length < lineD then (fs ρ).alS ρ L else .no := rfl
theorem al_ok (h : xs.length ≤ 1000000) : (R.ok xs).alS ρ L = .ok (.nx ρ (.lst (L ++ [.lst xs]))) := if_pos (Nat.le_trans h (by decide))
def R.fvS (r : R (List D)) (i : Nat) (g : DG) (is : List Nat) (G : DV) (ρ : DEnv) (d : D) : R OutV := match r with
  | .ok l => if ptrAt i (clrD is ρ) = true then forVL i g is G l (clrD is ρ) d else .no
  | _ => .no
theorem q_foV : forV i fi g is G ρ d = (fi ρ).fvS i g is G ρ d := rfl
theorem fv_ok : (R.ok L).fvS i g is G ρ d = if ptrAt i (clrD is ρ) = true then forVL i g is G L (clrD is ρ) d else .no := rfl
theorem fvl_n : forVL i g is G [] ρ d = .ok (.nx ρ d) := rfl
def R.lpV (r : R OutV) (i : Nat) (is : List Nat) (k : DV) : R OutV := match r with
  | .ok (.nx ρ2 d2) => if ptrAt i (clrD is ρ2) = true then k (clrD is ρ2) d2 else .no
  | .ok (.ct ρ2 d2) => if ptrAt i (clrD is ρ2) = true then k (clrD is ρ2) d2 else .no
  | .ok (.bk ρ2 d2) => .ok (.nx ρ2 d2)
  | r => r
theorem lpv_nx : (R.ok (OutV.nx ρ d)).lpV i is kk = if ptrAt i (clrD is ρ) = true then kk (clrD is ρ) d else .no := rfl
theorem lpv_ct : (R.ok (OutV.ct ρ d)).lpV i is kk = if ptrAt i (clrD is ρ) = true then kk (clrD is ρ) d else .no := rfl
theorem lpv_bk : (R.ok (OutV.bk ρ d)).lpV i is kk = .ok (.nx ρ d) := rfl
theorem lpv_rt : (R.ok (OutV.rt v ρ d)).lpV i is kk = .ok (.rt v ρ d) := rfl
theorem lpv_tt : (R.ok (OutV.tt ρ d)).lpV i is kk = .ok (.tt ρ d) := rfl
def R.gvS (r : R DEnv) (i : Nat) (k : DEnv → R OutV) : R OutV := match r with
  | .ok ρ1 => if ptrAt i ρ1 = true then k ρ1 else .no
  | _ => .no
theorem gv_ok : (R.ok ρ).gvS i k = if ptrAt i ρ = true then k ρ else .no := rfl
def R.cwS (r : R D) (ρ : DEnv) : R OutV := match r with
  | .ok d' => .ok (.nx ρ d')
  | _ => .no
def R.cvS (r : R (List D)) (den : List D → D → R D) (ρ : DEnv) (d : D) : R OutV := match r with
  | .ok ds => (den ds d).cwS ρ
  | _ => .no
theorem q_caV : callV fs den ρ d = (fs ρ).cvS den ρ d := by
  unfold callV R.cvS R.cwS
  cases fs ρ with
  | ok ds => first | rfl | (cases den ds d <;> rfl)
  | _ => rfl
theorem cv_ok : (R.ok xs).cvS den ρ d = (den xs d).cwS ρ := rfl
theorem cw_ok : (R.ok w).cwS ρ = .ok (.nx ρ w) := rfl
def R.ewS (r : R (List D)) (den : List D → D → R D) : R D := match r with
  | .ok ds => (match den ds (.lst []) with
    | .ok d' => .ok d'
    | _ => .no)
  | _ => .no
theorem q_caW : eCallW fs den ρ = (fs ρ).ewS den := rfl
def R.svS (r : R D) (i j : Nat) (ρ : DEnv) (d : D) : R OutV := match r with
  | .ok x => if noL x = true then (match setV j x ρ with
    | .ok ρ' => if ptrAt i ρ' = true then .ok (.nx ρ' d) else .no
    | _ => .no) else .no
  | _ => .no
def R.swS (r : R DEnv) (i : Nat) (d : D) : R OutV := match r with
  | .ok ρ' => if ptrAt i ρ' = true then .ok (.nx ρ' d) else .no
  | _ => .no
theorem q_seV : setV_ i j fe ρ d = (fe (vw i ρ d)).svS i j ρ d := rfl
theorem sv_ok : (R.ok w).svS i j ρ d = if noL w = true then (setV j w ρ).swS i d else .no := rfl
theorem sw_ok : (R.ok ρ).swS i d = if ptrAt i ρ = true then .ok (.nx ρ d) else .no := rfl
/-- x[j].append(e), by data -/
theorem appAt_ok {n : Nat} (h1 : f1 (vw i ρ d) = .ok (.int n)) (hy : getP d [n] = some (.lst y)) (he : fe (vw i ρ d) = .ok w) (hl : y.length < 1000000) (nl : noL w = true) : appAtV i f1 fe ρ d = .ok (.nx ρ (setP d [n] (.lst (y ++ [w])))) := by
  unfold appAtV
  rw [h1]
  dsimp only
  rw [if_pos (Int.natCast_nonneg _), Int.toNat_natCast, hy]
  dsimp only
  rw [if_pos (Nat.lt_trans hl (by decide)), he]
  dsimp only
  rw [if_pos nl]
end
def ev8 := And.intro @kp_z <| And.intro @q_sqV <| And.intro @sqv_nx <| And.intro @sqv_rt <| And.intro @sqv_tt <| And.intro @sqv_bk <| And.intro @sqv_ct <| And.intro @sqv_xx <| And.intro @q_liV <| And.intro @lv_nx <| And.intro @lv_rt <| And.intro @lv_bk <| And.intro @lv_ct <| And.intro @lv_xx <| And.intro @q_nxV <| And.intro @q_giV <| And.intro @q_vw <| And.intro @q_ifV <| And.intro @iv_t <| And.intro @iv_f <| And.intro @q_apV <| And.intro @av_ok <| And.intro @q_apL <| And.intro @al_ok <| And.intro @q_foV <| And.intro @fv_ok <| And.intro @fvl_n <| And.intro @lpv_nx <| And.intro @lpv_ct <| And.intro @lpv_bk <| And.intro @lpv_rt <| And.intro @lpv_tt <| And.intro @gv_ok <| And.intro @q_caV <| And.intro @cv_ok <| And.intro @cw_ok <| And.intro @q_caW <| And.intro @q_seV <| And.intro @sv_ok <| @sw_ok
end Tw

set_option maxHeartbeats 2000000
namespace Tw
open PySem
section
variable {hd : Wd} {ps ns ss : List Wd} {bs : List BS}
/-- the first base whose title stood before -/
def fdb : List Wd → List BS → Option Wd
  | _, [] => none
  | gs, b :: bs => if b.1 ∈ gs then some b.1 else fdb (gs ++ [b.1]) bs
theorem fdb_nd : ∀ (bs : List BS) (gs : List Wd), gs.Nodup → fdb gs bs = none → (gs ++ bs.map Prod.fst).Nodup
  | [], gs, h, _ => by rw [List.map_nil, List.append_nil]; exact h
  | b :: bs, gs, h, e => by
    unfold fdb at e
    split at e
    · cases e
    · rename_i hn
      have := fdb_nd bs (gs ++ [b.1]) (List.nodup_append.mpr ⟨h, List.nodup_cons.mpr ⟨List.not_mem_nil, List.nodup_nil⟩, fun a ha c hc => by rw [List.mem_singleton.mp hc]; exact fun z => hn (z ▸ ha)⟩) e
      rw [List.append_assoc] at this
      exact this
/-- what must come: 0 bad, 1 twice, 2 base -/
def du5 (hd : Wd) (ps : List Wd) (bs : List BS) : Option (Nat × Wd) :=
  if isW hd = false then some (0, hd) else match fbd [] ps with
    | some (true, w) => some (0, w)
    | some (false, w) => some (1, w)
    | none => match fdb [] bs with
      | some w => some (2, w)
      | none => none
def dD5 : Option (Nat × Wd) → D
  | none => .tup [.str "fine", .str ""]
  | some (0, w) => .tup [.str "bad", .str (S w)]
  | some (1, w) => .tup [.str "twice", .str (S w)]
  | some (_, w) => .tup [.str "base", .str (S w)]
def dA5 : Option (Nat × Wd) → D
  | none => .tup [.str "fine", .str "", .bl true]
  | some (0, w) => .tup [.str "bad", .str (S w), .bl true]
  | some (1, w) => .tup [.str "twice", .str (S w), .bl true]
  | some (_, w) => .tup [.str "base", .str (S w), .bl true]
def lnD (b : BS) : D := .lst [.str (S b.1), .bl b.2]
theorem due_loop : ∀ (l gs : List Wd) (a0 a1 a2 : Option Slot), (∀ w ∈ l, Gd w) → gs.length + l.length ≤ 1000 →
    (fbd gs l = none ∧ forL (gVar 4) [4] b_law_due_1 (stL l) [a0, a1, a2, some (.own (.lst (stL gs))), none, none, none] = .ok (.nx [a0, a1, a2, some (.own (.lst (stL (gs ++ l)))), none, none, none])) ∨
    (∃ b, fbd gs l = some b ∧ ∃ ρ, forL (gVar 4) [4] b_law_due_1 (stL l) [a0, a1, a2, some (.own (.lst (stL gs))), none, none, none] = .ok (.rt (dD5 (some (if b.1 = true then 0 else 1, b.2))) ρ))
  | [], gs, a0, a1, a2, _, _ => .inl ⟨rfl, by rw [show stL [] = [] from rfl, f_n, List.append_nil]⟩
  | w :: l, gs, a0, a1, a2, hw, hl => by
    have h1 := (hw w List.mem_cons_self).1
    rw [List.length_cons] at hl
    have iw := law_is_word_ok w (by omega)
    have i2 := oIn_lst w gs
    have gl : (stL gs).length < 1000000 := by rw [stL_len]; omega
    rw [show stL (w :: l) = .str (S w) :: stL l from rfl, f_c]
    unfold fbd
    cases hb : isW w with
    | false =>
      rw [hb] at iw
      right
      refine ⟨(true, w), by simp, [a0, a1, a2, some (.own (.lst (stL gs))), some (.val (.str (S w))), none, none], ?_⟩
      have st : b_law_due_1 [a0, a1, a2, some (.own (.lst (stL gs))), some (.val (.str (S w))), none, none] = .ok (.rt (dD5 (some (0, w))) [a0, a1, a2, some (.own (.lst (stL gs))), some (.val (.str (S w))), none, none]) := by
        unfold b_law_due_1 dD5
        simp -implicitDefEqProofs (disch := (first | assumption | omega | (simp only [ngs]; done) | decide)) only [ev, R.bind_ok, R.bind_ex, R.st_ok, R.st_ex, R.of_some, List.length_map, iw]
      simp -implicitDefEqProofs (disch := (first | assumption | omega | (simp only [ngs]; done) | decide)) only [ev, R.bind_ok, R.bind_ex, R.st_ok, R.st_ex, R.of_some, List.length_map, st]
      rfl
    | true =>
      rw [hb] at iw
      by_cases hm : w ∈ gs
      · rw [decide_eq_true hm] at i2
        right
        refine ⟨(false, w), by simp [hm], [a0, a1, a2, some (.own (.lst (stL gs))), some (.val (.str (S w))), none, none], ?_⟩
        have st : b_law_due_1 [a0, a1, a2, some (.own (.lst (stL gs))), some (.val (.str (S w))), none, none] = .ok (.rt (dD5 (some (1, w))) [a0, a1, a2, some (.own (.lst (stL gs))), some (.val (.str (S w))), none, none]) := by
          unfold b_law_due_1 dD5
          simp -implicitDefEqProofs (disch := (first | assumption | omega | (simp only [ngs]; done) | decide)) only [ev, R.bind_ok, R.bind_ex, R.st_ok, R.st_ex, R.of_some, List.length_map, iw, i2]
        simp -implicitDefEqProofs (disch := (first | assumption | omega | (simp only [ngs]; done) | decide)) only [ev, R.bind_ok, R.bind_ex, R.st_ok, R.st_ex, R.of_some, List.length_map, st]
        rfl
      · rw [decide_eq_false hm] at i2
        have st : b_law_due_1 [a0, a1, a2, some (.own (.lst (stL gs))), some (.val (.str (S w))), none, none] = .ok (.nx [a0, a1, a2, some (.own (.lst (stL (gs ++ [w])))), some (.val (.str (S w))), none, none]) := by
          unfold b_law_due_1
          simp -implicitDefEqProofs (disch := (first | assumption | omega | (simp only [ngs]; done) | decide)) only [ev, R.bind_ok, R.bind_ex, R.st_ok, R.st_ex, R.of_some, List.length_map, iw, i2, lt_ok gl]
          rw [stL_app]
          rfl
        have ih := due_loop l (gs ++ [w]) a0 a1 a2 (fun x hx => hw x (List.mem_cons_of_mem _ hx)) (by rw [List.length_append, List.length_singleton]; omega)
        simp only [if_true, if_neg hm]
        rw [List.append_assoc, show [w] ++ l = w :: l from rfl] at ih
        rcases ih with ⟨e1, e2⟩ | ⟨b, e1, ρ, e2⟩
        · exact .inl ⟨e1, by simp -implicitDefEqProofs (disch := (first | assumption | omega | (simp only [ngs]; done) | decide)) only [ev, R.bind_ok, R.bind_ex, R.st_ok, R.st_ex, R.of_some, List.length_map, st, e2]⟩
        · exact .inr ⟨b, e1, ρ, by simp -implicitDefEqProofs (disch := (first | assumption | omega | (simp only [ngs]; done) | decide)) only [ev, R.bind_ok, R.bind_ex, R.st_ok, R.st_ex, R.of_some, List.length_map, st, e2]⟩
theorem due_loop2 : ∀ (l : List BS) (gs : List Wd) (a0 a1 a2 a3 : Option Slot), gs.length + l.length ≤ 1000 →
    (fdb gs l = none ∧ forL (gVar 6) [6] b_law_due_2 (l.map lnD) [a0, a1, a2, a3, none, some (.own (.lst (stL gs))), none] = .ok (.nx [a0, a1, a2, a3, none, some (.own (.lst (stL (gs ++ l.map Prod.fst)))), none])) ∨
    (∃ b, fdb gs l = some b ∧ ∃ ρ, forL (gVar 6) [6] b_law_due_2 (l.map lnD) [a0, a1, a2, a3, none, some (.own (.lst (stL gs))), none] = .ok (.rt (dD5 (some (2, b))) ρ))
  | [], gs, a0, a1, a2, a3, _ => .inl ⟨rfl, by rw [List.map_nil, List.map_nil, f_n, List.append_nil]⟩
  | b :: l, gs, a0, a1, a2, a3, hl => by
    rw [List.length_cons] at hl
    have i2 := oIn_lst b.1 gs
    have gl : (stL gs).length < 1000000 := by rw [stL_len]; omega
    rw [List.map_cons, f_c]
    unfold fdb
    by_cases hm : b.1 ∈ gs
    · rw [decide_eq_true hm] at i2
      right
      refine ⟨b.1, by simp [hm], [a0, a1, a2, a3, none, some (.own (.lst (stL gs))), some (.val (lnD b))], ?_⟩
      have st : b_law_due_2 [a0, a1, a2, a3, none, some (.own (.lst (stL gs))), some (.val (lnD b))] = .ok (.rt (dD5 (some (2, b.1))) [a0, a1, a2, a3, none, some (.own (.lst (stL gs))), some (.val (lnD b))]) := by
        unfold b_law_due_2 dD5 lnD
        simp -implicitDefEqProofs (disch := (first | assumption | omega | (simp only [ngs]; done) | decide)) only [ev, R.bind_ok, R.bind_ex, R.st_ok, R.st_ex, R.of_some, List.length_map, i2]
      simp -implicitDefEqProofs (disch := (first | assumption | omega | (simp only [ngs]; done) | decide)) only [ev, R.bind_ok, R.bind_ex, R.st_ok, R.st_ex, R.of_some, List.length_map, st]
    · rw [decide_eq_false hm] at i2
      have st : b_law_due_2 [a0, a1, a2, a3, none, some (.own (.lst (stL gs))), some (.val (lnD b))] = .ok (.nx [a0, a1, a2, a3, none, some (.own (.lst (stL (gs ++ [b.1])))), some (.val (lnD b))]) := by
        unfold b_law_due_2 lnD
        simp -implicitDefEqProofs (disch := (first | assumption | omega | (simp only [ngs]; done) | decide)) only [ev, R.bind_ok, R.bind_ex, R.st_ok, R.st_ex, R.of_some, List.length_map, i2, lt_ok gl]
        rw [stL_app]
        rfl
      have ih := due_loop2 l (gs ++ [b.1]) a0 a1 a2 a3 (by rw [List.length_append, List.length_singleton]; omega)
      simp only [if_neg hm]
      rw [List.append_assoc, show [b.1] ++ l.map Prod.fst = (b :: l).map Prod.fst from rfl] at ih
      rcases ih with ⟨e1, e2⟩ | ⟨b, e1, ρ, e2⟩
      · exact .inl ⟨e1, by simp -implicitDefEqProofs (disch := (first | assumption | omega | (simp only [ngs]; done) | decide)) only [ev, R.bind_ok, R.bind_ex, R.st_ok, R.st_ex, R.of_some, List.length_map, st, e2]⟩
      · exact .inr ⟨b, e1, ρ, by simp -implicitDefEqProofs (disch := (first | assumption | omega | (simp only [ngs]; done) | decide)) only [ev, R.bind_ok, R.bind_ex, R.st_ok, R.st_ex, R.of_some, List.length_map, st, e2]⟩
theorem due_ok (hh : Gd hd) (hw : ∀ w ∈ ps, Gd w) (hl : ps.length ≤ 1000) (hl2 : bs.length ≤ 1000) : d_law_due [.str (S hd), .lst (stL ps), .lst (bs.map lnD)] = .ok (dD5 (du5 hd ps bs)) := by
  have iw := law_is_word_ok hd (by have := hh.1; omega)
  have it : iterD (.lst (stL ps)) = some (stL ps) := rfl
  have it2 : iterD (.lst (bs.map lnD)) = some (bs.map lnD) := rfl
  rw [e_law_due]
  unfold b_law_due du5
  cases h : isW hd with
  | false =>
    rw [h] at iw
    rw [if_pos rfl]
    unfold dD5
    simp -implicitDefEqProofs (disch := (first | assumption | omega | (simp only [ngs]; done) | decide)) only [ev, R.bind_ok, R.bind_ex, R.st_ok, R.st_ex, R.of_some, List.length_map, iw]
  | true =>
    rw [h] at iw
    rw [if_neg (show ¬ true = false by decide)]
    have lp := due_loop ps [] (some (.val (.str (S hd)))) (some (.val (.lst (stL ps)))) (some (.val (.lst (bs.map lnD)))) hw (by simpa using hl)
    rw [show stL [] = [] from rfl] at lp
    rcases lp with ⟨e, lp⟩ | ⟨⟨k, w⟩, e, ρ, lp⟩
    · rw [e]
      have lp2 := due_loop2 bs [] (some (.val (.str (S hd)))) (some (.val (.lst (stL ps)))) (some (.val (.lst (bs.map lnD)))) (some (.own (.lst (stL ([] ++ ps))))) (by simpa using hl2)
      rw [show stL [] = [] from rfl] at lp2
      rcases lp2 with ⟨e2, lp2⟩ | ⟨w, e2, ρ2, lp2⟩
      · rw [e2]
        simp -implicitDefEqProofs (disch := (first | assumption | omega | (simp only [ngs]; done) | decide)) only [ev, R.bind_ok, R.bind_ex, R.st_ok, R.st_ex, R.of_some, List.length_map, iw, it, lp, it2, lp2]
        rfl
      · rw [e2]
        simp -implicitDefEqProofs (disch := (first | assumption | omega | (simp only [ngs]; done) | decide)) only [ev, R.bind_ok, R.bind_ex, R.st_ok, R.st_ex, R.of_some, List.length_map, iw, it, lp, it2, lp2]
    · rw [e]
      cases k with
      | true => simp -implicitDefEqProofs (disch := (first | assumption | omega | (simp only [ngs]; done) | decide)) only [ev, R.bind_ok, R.bind_ex, R.st_ok, R.st_ex, R.of_some, List.length_map, iw, it, lp]; rfl
      | false => simp -implicitDefEqProofs (disch := (first | assumption | omega | (simp only [ngs]; done) | decide)) only [ev, R.bind_ok, R.bind_ex, R.st_ok, R.st_ex, R.of_some, List.length_map, iw, it, lp]; rfl
def db5 (w : Wd) : Ex := ⟨"DuplicateBase", ["title"], [.str (S w)]⟩
theorem dr_loop : ∀ (bs : List BS) (gs : List Wd) (o0 o1 o2 o3 o4 : Option Slot) (w : Wd), fdb gs bs = some w → gs.length + bs.length < 1000 →
    ∃ ρ', forL (gVar 6) [6] b_Draft_init_1 (bs.map bD) [o0, o1, o2, o3, o4, some (.own (.lst (stL gs))), none] = .ok (.xx (db5 w) ρ')
  | [], gs, o0, o1, o2, o3, o4, w, h, _ => by cases h
  | b :: bs, gs, o0, o1, o2, o3, o4, w, h, hl => by
    simp only [List.length_cons] at hl
    have ll : (stL gs).length < 1000000 := by rw [stL_len]; omega
    have e2 : stL gs ++ [.str (S b.1)] = stL (gs ++ [b.1]) := by rw [stL_app]; rfl
    have e1 := oIn_lst b.1 gs
    unfold fdb at h
    by_cases hm : b.1 ∈ gs
    · rw [if_pos hm] at h
      cases h
      rw [decide_eq_true hm] at e1
      refine ⟨[o0, o1, o2, o3, o4, some (.own (.lst (stL gs))), some (.val (bD b))], ?_⟩
      have st : b_Draft_init_1 [o0, o1, o2, o3, o4, some (.own (.lst (stL gs))), some (.val (bD b))] = .ok (.xx (db5 b.1) [o0, o1, o2, o3, o4, some (.own (.lst (stL gs))), some (.val (bD b))]) := by
        unfold b_Draft_init_1
        simp -implicitDefEqProofs (disch := (first | assumption | omega | (simp only [ngs]; done) | decide)) only [ev, R.bind_ok, R.bind_ex, R.st_ok, R.st_ex, R.of_some, List.length_map, bD_title, e1]
        rfl
      rw [List.map_cons, f_c]
      simp -implicitDefEqProofs (disch := (first | assumption | omega | (simp only [ngs]; done) | decide)) only [ev, R.bind_ok, R.bind_ex, R.st_ok, R.st_ex, R.of_some, List.length_map, st]
    · rw [if_neg hm] at h
      rw [decide_eq_false hm] at e1
      obtain ⟨ρ', ih⟩ := dr_loop bs (gs ++ [b.1]) o0 o1 o2 o3 o4 w h (by simp; omega)
      refine ⟨ρ', ?_⟩
      have st : b_Draft_init_1 [o0, o1, o2, o3, o4, some (.own (.lst (stL gs))), some (.val (bD b))] = .ok (.nx [o0, o1, o2, o3, o4, some (.own (.lst (stL (gs ++ [b.1])))), some (.val (bD b))]) := by
        unfold b_Draft_init_1
        simp -implicitDefEqProofs (disch := (first | assumption | omega | (simp only [ngs]; done) | decide)) only [ev, R.bind_ok, R.bind_ex, R.st_ok, R.st_ex, R.of_some, List.length_map, bD_title, e1, e2]
      rw [List.map_cons, f_c]
      simp -implicitDefEqProofs (disch := (first | assumption | omega | (simp only [ngs]; done) | decide)) only [ev, R.bind_ok, R.bind_ex, R.st_ok, R.st_ex, R.of_some, List.length_map, st, ih]
/-- the error that comes -/
def exq : Nat × Wd → Ex
  | (0, w) => ⟨"InvalidWord", ["word"], [.str (S w)]⟩
  | (1, w) => ⟨"DuplicateName", ["name"], [.str (S w)]⟩
  | (_, w) => db5 w
theorem mk_bad {nd sd bd : D} (hn : Lt nd (stL ns)) (hs : Lt sd (stL ss)) (hb : Lt bd (bs.map bD)) (hh : hd.length ≤ 1000) (hw : ∀ w ∈ ns ++ ss, w.length ≤ 1000) (hl : ns.length + ss.length < 1000) (hl2 : bs.length < 1000) {x : Nat × Wd} (h : du5 hd (ns ++ ss) bs = some x) :
    mkD "Draft" d_Draft_init [.str (S hd), nd, sd, bd] = .ex (exq x) := by
  have e : d_Draft_init (.obj "Draft" [] []) [.str (S hd), nd, sd, bd] = .ex (exq x) := by
    rw [e_Draft_init]
    unfold b_Draft_init
    unfold du5 at h
    cases hi : isW hd with
    | false =>
      rw [hi, if_pos rfl] at h
      cases h
      simp -implicitDefEqProofs (disch := (first | assumption | omega | (simp only [ngs]; done) | decide)) only [ev, R.bind_ok, R.bind_ex, R.st_ok, R.st_ex, R.of_some, List.length_map, titled_bad (s := .obj "Draft" [] []) hh hi]
      rfl
    | true =>
      rw [hi, if_neg (show ¬ true = false by decide)] at h
      cases hf : fbd [] (ns ++ ss) with
      | some b =>
        have bad := declI_bad (s := .obj "Draft" ["title"] [.str (S hd)]) hn hs hw (by omega) hf
        rw [hf] at h
        obtain ⟨k, w⟩ := b
        cases k with
        | true =>
          cases h
          simp -implicitDefEqProofs (disch := (first | assumption | omega | (simp only [ngs]; done) | decide)) only [ev, R.bind_ok, R.bind_ex, R.st_ok, R.st_ex, R.of_some, List.length_map, titled_ok (c := "Draft") (by decide +kernel) hi, bad]
          rfl
        | false =>
          cases h
          simp -implicitDefEqProofs (disch := (first | assumption | omega | (simp only [ngs]; done) | decide)) only [ev, R.bind_ok, R.bind_ex, R.st_ok, R.st_ex, R.of_some, List.length_map, titled_ok (c := "Draft") (by decide +kernel) hi, bad]
          rfl
      | none =>
        rw [hf] at h
        obtain ⟨g1, g2, _⟩ := fb_good _ _ hf
        have e1 := declI_ok (c := "Draft") (ks := ["title"]) (vs := [.str (S hd)]) (nd := nd) (sd := sd) (by decide +kernel) (by decide +kernel) (by decide) rfl rfl hn hs g1 g2 (by rw [List.length_append]; exact hl)
        cases hg : fdb [] bs with
        | none => rw [hg] at h; cases h
        | some w =>
          rw [hg] at h
          cases h
          have hit : iterD bd = some (bs.map bD) := by rcases hb with rfl | rfl <;> rfl
          obtain ⟨ρ', lp⟩ := dr_loop bs [] (some (.slf (.obj "Draft" ["title", "names", "statics"] [.str (S hd), .tup (stL ns), .tup (stL ss)]))) (some (.val (.str (S hd)))) (some (.val nd)) (some (.val sd)) (some (.val bd)) w hg (by simpa using hl2)
          rw [show stL [] = [] from rfl] at lp
          simp -implicitDefEqProofs (disch := (first | assumption | omega | (simp only [ngs]; done) | decide)) only [ev, R.bind_ok, R.bind_ex, R.st_ok, R.st_ex, R.of_some, List.length_map, titled_ok (c := "Draft") (by decide +kernel) hi, e1, List.cons_append, List.nil_append, hit, lp]
          rfl
  rw [q_mkd, e]; rfl
theorem du_good (h : du5 hd (ns ++ ss) bs = none) (hl : ns.length + ss.length < 1000) (hl2 : bs.length < 1000) (hbw : ∀ b ∈ bs, isW b.1 = true) : DrOk ⟨hd, ns, ss, bs⟩ := by
  unfold du5 at h
  cases hi : isW hd with
  | false => rw [hi, if_pos rfl] at h; cases h
  | true =>
    rw [hi, if_neg (show ¬ true = false by decide)] at h
    cases hf : fbd [] (ns ++ ss) with
    | some b =>
      rw [hf] at h
      obtain ⟨k, w⟩ := b
      cases k <;> cases h
    | none =>
      rw [hf] at h
      obtain ⟨g1, g2, _⟩ := fb_good _ _ hf
      cases hg : fdb [] bs with
      | some w => rw [hg] at h; cases h
      | none =>
        have := fdb_nd bs [] List.nodup_nil hg
        exact ⟨hi, g1, g2, by rw [List.length_append]; exact hl, by simpa using this, hbw, hl2⟩
end
theorem ne_bb5 (a b : Bool) : oNe (.lst [.bl a, .bl b]) (.lst [.bl a, .bl b]) = some (.bl false) := ne_self (by cases a <;> cases b <;> rfl)
theorem decl_ok5 (r : Dr) (x : Wd) : d_Declaring_declares [drD r, .str (S x)] = .ok (.bl (decide (x ∈ r.ns) || decide (x ∈ r.ss))) := by
  rw [e_Declaring_declares]
  unfold b_Declaring_declares
  have h1 := oIn_tup x r.ns
  have h2 := oIn_tup x r.ss
  cases hA : decide (x ∈ r.ns) with
  | true =>
    rw [hA] at h1
    simp -implicitDefEqProofs (disch := (first | assumption | omega | (simp only [ngs]; done) | decide)) only [ev, R.bind_ok, R.bind_ex, R.st_ok, R.st_ex, R.of_some, List.length_map, drD_n, drD_s, h1]
    rfl
  | false =>
    rw [hA] at h1
    simp -implicitDefEqProofs (disch := (first | assumption | omega | (simp only [ngs]; done) | decide)) only [ev, R.bind_ok, R.bind_ex, R.st_ok, R.st_ex, R.of_some, List.length_map, drD_n, drD_s, h1, h2]
    rw [Bool.false_or]
theorem stat_ok5 (r : Dr) (x : Wd) : d_Declaring_is_static [drD r, .str (S x)] = .ok (.bl (decide (x ∈ r.ss))) := by
  rw [e_Declaring_is_static]
  unfold b_Declaring_is_static
  have h2 := oIn_tup x r.ss
  simp -implicitDefEqProofs (disch := (first | assumption | omega | (simp only [ngs]; done) | decide)) only [ev, R.bind_ok, R.bind_ex, R.st_ok, R.st_ex, R.of_some, List.length_map, drD_s, h2]
theorem meth_dr (h : List D → R D) (as : DA) (ρ : DEnv) (r : Dr) : methS ["Draft"] h as ρ (drD r) = (as ρ).bind fun xs => h (drD r :: xs) := m_obj
theorem shows_loop {r : Dr} {a1 a2 a4 : Option Slot} : ∀ l : List Wd, (∀ w ∈ l, w ∈ r.ns ++ r.ss) →
    forL (gVar 6) [6] b_law_shows_2 (stL l) [some (.val (drD r)), a1, a2, some (.val (.lst (stL r.ss))), a4, none, none, none] = .ok (.nx [some (.val (drD r)), a1, a2, some (.val (.lst (stL r.ss))), a4, none, none, none])
  | [], _ => by rw [show stL [] = [] from rfl, f_n]
  | w :: l, h => by
    have hw := h w List.mem_cons_self
    have d1 := decl_ok5 r w
    have d2 := stat_ok5 r w
    have i2 := oIn_lst w r.ss
    have dd : (decide (w ∈ r.ns) || decide (w ∈ r.ss)) = true := by
      rcases List.mem_append.mp hw with z | z
      · rw [decide_eq_true z]; rfl
      · rw [decide_eq_true z, Bool.or_true]
    rw [dd] at d1
    have n1 := ne_bb5 true (decide (w ∈ r.ss))
    have st : b_law_shows_2 [some (.val (drD r)), a1, a2, some (.val (.lst (stL r.ss))), a4, none, some (.val (.str (S w))), none] = .ok (.nx [some (.val (drD r)), a1, a2, some (.val (.lst (stL r.ss))), a4, none, some (.val (.str (S w))), none]) := by
      unfold b_law_shows_2
      simp -implicitDefEqProofs (disch := (first | assumption | omega | (simp only [ngs]; done) | decide)) only [ev, ev2, ev3, R.bind_ok, R.bind_ex, R.st_ok, R.st_ex, R.of_some, List.length_map, meth_dr, d1, d2, i2, ↓n1]
    have ih := shows_loop (r := r) (a1 := a1) (a2 := a2) (a4 := a4) l fun x hx => h x (List.mem_cons_of_mem _ hx)
    rw [show stL (w :: l) = .str (S w) :: stL l from rfl, f_c]
    simp -implicitDefEqProofs (disch := (first | assumption | omega | (simp only [ngs]; done) | decide)) only [ev, R.bind_ok, R.bind_ex, R.st_ok, R.st_ex, R.of_some, List.length_map, st, ih]
theorem shows_ok {r : Dr} (h : DrOk r) : d_law_shows [drD r, .str (S r.t), .lst (stL r.ns), .lst (stL r.ss), .lst (r.bs.map lnD)] = .ok (.bl true) := by
  have n0 : oNe (.str (S r.t)) (.str (S r.t)) = some (.bl false) := by rw [p_nes]; simp
  have n1 := oNe_tup (l := r.ns) fun w hw => h.w w (List.mem_append_left _ hw)
  have n2 := oNe_tup (l := r.ss) fun w hw => h.w w (List.mem_append_right _ hw)
  have o1 : oIsO "Draft" "Titled" (drD r) = some (.bl true) := rfl
  have o2 : oIsO "Draft" "Declaring" (drD r) = some (.bl true) := rfl
  have is2 : ∀ l : List D, oIsi "tuple" (.tup l) = some (.bl true) := fun l => rfl
  have it0 : ∀ l : List D, iterD (.lst l) = some l := fun l => rfl
  have itt : ∀ l : List D, iterD (.tup l) = some l := fun l => rfl
  have nl := h.nl
  rw [List.length_append] at nl
  have bl := h.bl
  have ad : oAdd (.lst (stL r.ns)) (.lst (stL r.ss)) = some (.lst (stL (r.ns ++ r.ss))) := by rw [p_addl (by rw [stL_len, stL_len]; omega), stL_app]
  have t1 : ∀ l : List Wd, oTuple (.lst (stL l)) = some (.tup (stL l)) := fun l => rfl
  have lp := shows_loop (r := r) (a1 := some (.val (.str (S r.t)))) (a2 := some (.val (.lst (stL r.ns)))) (a4 := some (.val (.lst (r.bs.map lnD)))) (r.ns ++ r.ss) fun w hw => hw
  have cm1 : ∀ a1 a2 a3 a4, compS (gVar 7) tYesD (e1 (oIsi "bool") (e1 (oFld "is_shared") (eVar 7))) [7] [some (.val (drD r)), a1, a2, a3, a4, none, none, none] (r.bs.map bD) = .ok (.lst (r.bs.map fun _ => .bl true)) := by
    intro a1 a2 a3 a4
    rw [comp_map bD (fun _ => .bl true) (by omega) rfl (fun b hb => by
      have ib : oIsi "bool" (.bl b.2) = some (.bl true) := rfl
      unfold cStep
      simp -implicitDefEqProofs (disch := (first | assumption | omega | (simp only [ngs]; done) | decide)) only [ev, R.bind_ok, R.bind_ex, R.st_ok, R.st_ex, R.of_some, List.length_map, bD_sh, ib, if_true])]
  have cm2 : ∀ a1 a2 a3 a4, compS (gVar 7) tYesD (eLst (aCons (e1 (oFld "title") (eVar 7)) (aCons (e1 (oFld "is_shared") (eVar 7)) aNil))) [7] [some (.val (drD r)), a1, a2, a3, a4, none, none, none] (r.bs.map bD) = .ok (.lst (r.bs.map lnD)) := by
    intro a1 a2 a3 a4
    rw [comp_map bD lnD (by omega) rfl (fun b hb => by
      unfold cStep lnD
      simp -implicitDefEqProofs (disch := (first | assumption | omega | (simp only [ngs]; done) | decide)) only [ev, R.bind_ok, R.bind_ex, R.st_ok, R.st_ex, R.of_some, List.length_map, bD_sh, bD_title, if_true])]
  have al : oAll (.lst (r.bs.map fun _ => D.bl true)) = some (.bl true) := by
    have : ∀ l : List BS, blsD (l.map fun _ => D.bl true) = some (l.map fun _ => true) := by
      intro l
      induction l with
      | nil => rfl
      | cons a l ih => rw [List.map_cons, List.map_cons]; unfold blsD; rw [ih]; rfl
    unfold oAll
    dsimp only
    rw [this]
    simp
  have eq : oEq (.lst (r.bs.map lnD)) (.lst (r.bs.map lnD)) = some (.bl true) := by
    refine _root_.Tw.eq_self ?_
    show (r.bs.map lnD).all (shp 59) = true
    rw [List.all_map, List.all_eq_true]
    intro b hb
    show ([D.str (S b.1), .bl b.2]).all (shp 58) = true
    have : shp 58 (.bl b.2) = true := by cases b.2 <;> rfl
    simp only [List.all_cons, List.all_nil, shp_str (h.bw b hb) 58, this, Bool.and_true]
  have sh1 : ∀ (l : List D) (a1 a2 a3 a4 : Option Slot), b_law_shows_1 [some (.val (drD r)), a1, a2, a3, a4, some (.val (.tup l)), none, none] = .ok (.nx [some (.val (drD r)), a1, a2, a3, a4, some (.val (.tup l)), none, none]) := by
    intro l a1 a2 a3 a4
    unfold b_law_shows_1
    simp -implicitDefEqProofs (disch := (first | assumption | omega | (simp only [ngs]; done) | decide)) only [ev, ev2, ev3, R.bind_ok, R.bind_ex, R.st_ok, R.st_ex, R.of_some, List.length_map, is2]
  rw [e_law_shows]
  unfold b_law_shows
  simp -implicitDefEqProofs (disch := (first | assumption | omega | (simp only [ngs]; done) | decide)) only [ev, ev2, ev3, R.bind_ok, R.bind_ex, R.st_ok, R.st_ex, R.of_some, List.length_map, drD_t, drD_n, drD_s, drD_b, ↓n0, ↓n1, ↓n2, o1, o2, t1, it0, itt, sh1, f_c, f_n, ad, lp, cm1, cm2, ↓al, ↓eq]
theorem tv_x1 {i : Nat} {cn : String} {ks : List Str} {s : Str} {ρ : DEnv} {d : D} {hs : List Hd} {es : List String} (h1 : cn ∈ es) : (R.ok (OutV.xx ⟨cn, ks, [.str s]⟩ ρ d)).tyV i es hs = outO i (tryH hs ⟨cn, ks, [.str s]⟩ ρ) d := if_pos ⟨h1, rfl⟩
theorem asked_ok {hd : Wd} {ns ss : List Wd} {bs : List BS} {b : Bool} (hh : hd.length ≤ 1000) (hw : ∀ w ∈ ns ++ ss, w.length ≤ 1000) (hl : ns.length + ss.length < 1000) (hl2 : bs.length < 1000) (hbw : ∀ b ∈ bs, isW b.1 = true) :
    d_law_asked [.str (S hd), .lst (stL ns), .lst (stL ss), .lst (bs.map lnD), .bl b] = .ok (dA5 (du5 hd (ns ++ ss) bs)) := by
  have cm : ∀ a0 a1 a2 a4, compS (gVar 10) tYesD (eCall (mkD "Base" d_Base_init) (aCons (e2 oIx (eVar 10) (eC (.int 0))) (aCons (e2 oIx (eVar 10) (eC (.int 1))) aNil))) [10] [a0, a1, a2, some (.val (.lst (bs.map lnD))), a4, none, none, none, none, none, none] (bs.map lnD) = .ok (.lst (bs.map bD)) := by
    intro a0 a1 a2 a4
    rw [comp_map lnD bD (by omega) rfl (fun b hb => by
      have mk := mkbase_ok (w := b.1) (b := b.2) (hbw b hb)
      unfold cStep lnD
      simp -implicitDefEqProofs (disch := (first | assumption | omega | (simp only [ngs]; done) | decide)) only [ev, R.bind_ok, R.bind_ex, R.st_ok, R.st_ex, R.of_some, List.length_map, at_1, mk, if_true])]
  have it0 : ∀ l : List D, iterD (.lst l) = some l := fun l => rfl
  have t1 : ∀ l : List D, oTuple (.lst l) = some (.tup l) := fun l => rfl
  have l1 : ∀ l : List D, oList (.lst l) = some (.lst l) := fun l => rfl
  have g : ∀ a x y z : D, gDr3 [a] [x, y, z] = [a, x, y, z] := fun a x y z => rfl
  have bsl : (stL ns).length < 1000000 := by rw [stL_len]; omega
  have bsl2 : (stL ss).length < 1000000 := by rw [stL_len]; omega
  have bsl3 : (bs.map bD).length < 1000000 := by rw [List.length_map]; omega
  have ba := mkbase_ok (w := [76, 97, 116, 101, 114]) (b := false) (by decide)
  rw [show S [76, 97, 116, 101, 114] = Str.ofString "Later" by decide +kernel] at ba
  have at1 : ∀ a b c : D, atD [a, b, c] 1 = some b := fun a b c => rfl
  have at2 : ∀ a b c : D, atD [a, b, c] 2 = some c := fun a b c => rfl
  have t3 : ∀ (a b c : D) (F : DVD) (ρ : DEnv), (R.ok [a, b, c]).tlS 5 F ρ = F (ρ.set 5 (some .ptr)) (.lst [a, b, c]) := fun a b c F ρ => tl_ok (by show 3 ≤ 1000000; decide)
  have sx : ∀ (r : Dr) (x0 x1 x2 x3 x4 d : D), (R.ok (drD r)).sxS 5 6 [some (.val x0), some (.val x1), some (.val x2), some (.val x3), some (.val x4), some .ptr, none, none, none, none, none] d = .ok (.nx [some (.val x0), some (.val x1), some (.val x2), some (.val x3), some (.val x4), some .ptr, some (.val (drD r)), none, none, none, none] d) := fun r x0 x1 x2 x3 x4 d => sx_ok (noL_dr r) rfl rfl
  cases h : du5 hd (ns ++ ss) bs with
  | none =>
    have ok := du_good h hl hl2 hbw
    have m1 := mkdr_ok (r := ⟨hd, ns, ss, bs⟩) (nd := .tup (stL ns)) (sd := .tup (stL ss)) (bd := .tup (bs.map bD)) ok (.inr rfl) (.inr rfl) (.inr rfl)
    have m2 := mkdr_ok (r := ⟨hd, ns, ss, bs⟩) (nd := .lst (stL ns)) (sd := .lst (stL ss)) (bd := .lst (bs.map bD)) ok (.inl rfl) (.inl rfl) (.inl rfl)
    have sh := shows_ok ok
    simp only at m1 m2 sh
    have ap0 := appAt_ok (i := 5) (ρ := [some (.val (.str (S hd))), some (.val (.lst (stL ns))), some (.val (.lst (stL ss))), some (.val (.lst (bs.map lnD))), some (.val (.bl b)), some .ptr, some (.val (drD ⟨hd, ns, ss, bs⟩)), none, none, none, none]) (d := .lst [.lst (stL ns), .lst (stL ss), .lst (bs.map bD)]) (f1 := eC (.int 0)) (n := 0) (fe := eC (.str "later")) (w := .str "later") rfl rfl rfl bsl rfl
    have ap1 := appAt_ok (i := 5) (ρ := [some (.val (.str (S hd))), some (.val (.lst (stL ns))), some (.val (.lst (stL ss))), some (.val (.lst (bs.map lnD))), some (.val (.bl b)), some .ptr, some (.val (drD ⟨hd, ns, ss, bs⟩)), none, none, none, none]) (d := .lst [.lst (stL ns ++ [D.str "later"]), .lst (stL ss), .lst (bs.map bD)]) (f1 := eC (.int 1)) (n := 1) (fe := eC (.str "last")) (w := .str "last") rfl rfl rfl bsl2 rfl
    have ap2 := appAt_ok (i := 5) (ρ := [some (.val (.str (S hd))), some (.val (.lst (stL ns))), some (.val (.lst (stL ss))), some (.val (.lst (bs.map lnD))), some (.val (.bl b)), some .ptr, some (.val (drD ⟨hd, ns, ss, bs⟩)), none, none, none, none]) (d := .lst [.lst (stL ns ++ [D.str "later"]), .lst (stL ss ++ [D.str "last"]), .lst (bs.map bD)]) (f1 := eC (.int 2)) (n := 2) (fe := eCall (fun xs => mkD "Base" d_Base_init (xs ++ [D.bl false])) (aCons (eC (D.str "Later")) aNil)) (w := bD ([76, 97, 116, 101, 114], false)) rfl rfl ba bsl3 rfl
    have pp0 : ∀ x y z w : D, setP (.lst [x, y, z]) [0] w = .lst [w, y, z] := fun x y z w => rfl
    have pp1 : ∀ x y z w : D, setP (.lst [x, y, z]) [1] w = .lst [x, w, z] := fun x y z w => rfl
    have pp2 : ∀ x y z w : D, setP (.lst [x, y, z]) [2] w = .lst [x, y, w] := fun x y z w => rfl
    rw [pp0] at ap0
    rw [pp1] at ap1
    rw [pp2] at ap2
    rw [e_law_asked]
    unfold b_law_asked dA5
    cases b with
    | true => simp -implicitDefEqProofs (disch := (first | assumption | omega | (simp only [ngs]; done) | decide)) only [ev, ev2, ev3, ev6, ev8, ev9, ev10, R.bind_ok, R.bind_ex, R.st_ok, R.st_ex, R.of_some, List.length_map, it0, l1, t1, cm, g, m1, sh, ba, t3, sx, at1, at2, ↓ap0, ↓ap1, ↓ap2]
    | false => simp -implicitDefEqProofs (disch := (first | assumption | omega | (simp only [ngs]; done) | decide)) only [ev, ev2, ev3, ev6, ev8, ev9, ev10, R.bind_ok, R.bind_ex, R.st_ok, R.st_ex, R.of_some, List.length_map, it0, l1, t1, cm, g, m2, sh, ba, t3, sx, at1, at2, ↓ap0, ↓ap1, ↓ap2]
  | some x =>
    have m1 := mk_bad (hd := hd) (bs := bs) (nd := .tup (stL ns)) (sd := .tup (stL ss)) (bd := .tup (bs.map bD)) (.inr rfl) (.inr rfl) (.inr rfl) hh hw hl hl2 h
    have m2 := mk_bad (hd := hd) (bs := bs) (nd := .lst (stL ns)) (sd := .lst (stL ss)) (bd := .lst (bs.map bD)) (.inl rfl) (.inl rfl) (.inl rfl) hh hw hl hl2 h
    have i7 : ∀ x0 x1 x2 x3 x4 : D, 7 < [some (Slot.val x0), some (.val x1), some (.val x2), some (.val x3), some (.val x4), some .ptr, none, none, none, none, none].length := fun _ _ _ _ _ => by show 7 < 11; decide
    have i8 : ∀ x0 x1 x2 x3 x4 : D, 8 < [some (Slot.val x0), some (.val x1), some (.val x2), some (.val x3), some (.val x4), some .ptr, none, none, none, none, none].length := fun _ _ _ _ _ => by show 8 < 11; decide
    have i9 : ∀ x0 x1 x2 x3 x4 : D, 9 < [some (Slot.val x0), some (.val x1), some (.val x2), some (.val x3), some (.val x4), some .ptr, none, none, none, none, none].length := fun _ _ _ _ _ => by show 9 < 11; decide
    have t1' : exSub "InvalidWord" "InvalidWord" = true := by decide
    have t2 : exSub "InvalidWord" "HierarchyError" = true := by decide
    have t3' : exSub "InvalidWord" "DuplicateName" = false := by decide
    have t4 : exSub "DuplicateName" "InvalidWord" = false := by decide
    have t5 : exSub "DuplicateName" "DuplicateName" = true := by decide
    have t6 : exSub "DuplicateName" "HierarchyError" = true := by decide
    have t7 : exSub "DuplicateName" "DuplicateBase" = false := by decide
    have t8 : exSub "DuplicateBase" "InvalidWord" = false := by decide
    have t9 : exSub "DuplicateBase" "DuplicateName" = false := by decide
    have t10 : exSub "DuplicateBase" "DuplicateBase" = true := by decide
    have t11 : exSub "DuplicateBase" "HierarchyError" = true := by decide
    have t12 : exSub "DuplicateBase" "ValueError" = true := by decide
    rw [e_law_asked]
    unfold b_law_asked
    obtain ⟨k, w⟩ := x
    match k with
    | 0 =>
      have m1 : _ = R.ex ⟨"InvalidWord", ["word"], [.str (S w)]⟩ := m1
      have m2 : _ = R.ex ⟨"InvalidWord", ["word"], [.str (S w)]⟩ := m2
      have mm : "InvalidWord" ∈ ["DuplicateBase", "DuplicateName", "InvalidWord"] := by decide
      unfold dA5
      cases b with
      | true => simp -implicitDefEqProofs (disch := (first | assumption | omega | (simp only [ngs]; done) | decide)) only [ev, ev2, ev3, ev6, ev8, ev9, ev10, R.bind_ok, R.bind_ex, R.st_ok, R.st_ex, R.of_some, List.length_map, it0, l1, t1, cm, g, m1, ba, t3, at1, at2, tv_x1 mm, th_c (i7 _ _ _ _ _), t1', t2, t3', look_h]
      | false => simp -implicitDefEqProofs (disch := (first | assumption | omega | (simp only [ngs]; done) | decide)) only [ev, ev2, ev3, ev6, ev8, ev9, ev10, R.bind_ok, R.bind_ex, R.st_ok, R.st_ex, R.of_some, List.length_map, it0, l1, t1, cm, g, m2, ba, t3, at1, at2, tv_x1 mm, th_c (i7 _ _ _ _ _), t1', t2, t3', look_h]
    | 1 =>
      have m1 : _ = R.ex ⟨"DuplicateName", ["name"], [.str (S w)]⟩ := m1
      have m2 : _ = R.ex ⟨"DuplicateName", ["name"], [.str (S w)]⟩ := m2
      have mm : "DuplicateName" ∈ ["DuplicateBase", "DuplicateName", "InvalidWord"] := by decide
      unfold dA5
      cases b with
      | true => simp -implicitDefEqProofs (disch := (first | assumption | omega | (simp only [ngs]; done) | decide)) only [ev, ev2, ev3, ev6, ev8, ev9, ev10, R.bind_ok, R.bind_ex, R.st_ok, R.st_ex, R.of_some, List.length_map, it0, l1, t1, cm, g, m1, ba, t3, at1, at2, tv_x1 mm, th_c (i7 _ _ _ _ _), th_c (i8 _ _ _ _ _), t4, t5, t6, t7, look_h]
      | false => simp -implicitDefEqProofs (disch := (first | assumption | omega | (simp only [ngs]; done) | decide)) only [ev, ev2, ev3, ev6, ev8, ev9, ev10, R.bind_ok, R.bind_ex, R.st_ok, R.st_ex, R.of_some, List.length_map, it0, l1, t1, cm, g, m2, ba, t3, at1, at2, tv_x1 mm, th_c (i7 _ _ _ _ _), th_c (i8 _ _ _ _ _), t4, t5, t6, t7, look_h]
    | k + 2 =>
      have m1 : _ = R.ex ⟨"DuplicateBase", ["title"], [.str (S w)]⟩ := m1
      have m2 : _ = R.ex ⟨"DuplicateBase", ["title"], [.str (S w)]⟩ := m2
      have mm : "DuplicateBase" ∈ ["DuplicateBase", "DuplicateName", "InvalidWord"] := by decide
      have e : dA5 (some (k + 2, w)) = .tup [.str "base", .str (S w), .bl true] := rfl
      rw [e]
      cases b with
      | true => simp -implicitDefEqProofs (disch := (first | assumption | omega | (simp only [ngs]; done) | decide)) only [ev, ev2, ev3, ev6, ev8, ev9, ev10, R.bind_ok, R.bind_ex, R.st_ok, R.st_ex, R.of_some, List.length_map, it0, l1, t1, cm, g, m1, ba, t3, at1, at2, tv_x1 mm, th_c (i7 _ _ _ _ _), th_c (i8 _ _ _ _ _), th_c (i9 _ _ _ _ _), t8, t9, t10, t11, t12, look_h]
      | false => simp -implicitDefEqProofs (disch := (first | assumption | omega | (simp only [ngs]; done) | decide)) only [ev, ev2, ev3, ev6, ev8, ev9, ev10, R.bind_ok, R.bind_ex, R.st_ok, R.st_ex, R.of_some, List.length_map, it0, l1, t1, cm, g, m2, ba, t3, at1, at2, tv_x1 mm, th_c (i7 _ _ _ _ _), th_c (i8 _ _ _ _ _), th_c (i9 _ _ _ _ _), t8, t9, t10, t11, t12, look_h]
theorem du5_in {hd : Wd} {ps : List Wd} {bs : List BS} {x : Nat × Wd} (h : du5 hd ps bs = some x) : x.2 = hd ∨ x.2 ∈ ps ∨ x.2 ∈ bs.map Prod.fst := by
  have mem : ∀ (l gs : List Wd) (b : Bool × Wd), fbd gs l = some b → b.2 ∈ l := by
    intro l
    induction l with
    | nil => intro gs b h; cases h
    | cons w l ih =>
      intro gs b h
      unfold fbd at h
      split at h
      · split at h
        · cases h; exact List.mem_cons_self
        · exact List.mem_cons_of_mem _ (ih _ _ h)
      · cases h; exact List.mem_cons_self
  have mem2 : ∀ (l : List BS) (gs : List Wd) (w : Wd), fdb gs l = some w → w ∈ l.map Prod.fst := by
    intro l
    induction l with
    | nil => intro gs b h; cases h
    | cons b l ih =>
      intro gs w h
      unfold fdb at h
      split at h
      · cases h; exact List.mem_cons_self
      · exact List.mem_cons_of_mem _ (ih _ _ h)
  unfold du5 at h
  split at h
  · cases h; exact .inl rfl
  · split at h
    · rename_i w e
      cases h; exact .inr (.inl (mem _ _ _ e))
    · rename_i w e
      cases h; exact .inr (.inl (mem _ _ _ e))
    · split at h
      · rename_i w e
        cases h; exact .inr (.inr (mem2 _ _ _ e))
      · cases h
theorem dd_shape (x : Option (Nat × Wd)) (hx : ∀ y, x = some y → Gd y.2) : ∃ t w : Str, dD5 x = .tup [.str t, .str w] ∧ dA5 x = .tup [.str t, .str w, .bl true] ∧ strOkD t = true ∧ strOkD w = true := by
  match x, hx with
  | none, _ => exact ⟨"fine", "", rfl, rfl, by decide +kernel, by decide +kernel⟩
  | some (0, w), hx => exact ⟨"bad", S w, rfl, rfl, by decide +kernel, (hx _ rfl).ok⟩
  | some (1, w), hx => exact ⟨"twice", S w, rfl, rfl, by decide +kernel, (hx _ rfl).ok⟩
  | some (k + 2, w), hx => exact ⟨"base", S w, rfl, rfl, by decide +kernel, (hx _ rfl).ok⟩
theorem head_ok (r : Int) : ∃ hd : Wd, Gd hd ∧ 0 ≤ r % 5 ∧ atD [D.str "", .str "7up", .str "a b", .str "Abcdefghi", .str "x_y"] (r % 5) = some (.str (S hd)) := by
  have h1 := Int.emod_nonneg r (show (5 : Int) ≠ 0 by decide)
  have h2 := Int.emod_lt_of_pos r (show (0 : Int) < 5 by decide)
  have : r % 5 = 0 ∨ r % 5 = 1 ∨ r % 5 = 2 ∨ r % 5 = 3 ∨ r % 5 = 4 := by omega
  rcases this with e | e | e | e | e <;> rw [e]
  · exact ⟨[], ⟨by decide, by decide⟩, by decide, rfl⟩
  · exact ⟨[55, 117, 112], ⟨by decide, by decide⟩, by decide, rfl⟩
  · exact ⟨[97, 32, 98], ⟨by decide, by decide⟩, by decide, rfl⟩
  · exact ⟨[65, 98, 99, 100, 101, 102, 103, 104, 105], ⟨by decide, by decide⟩, by decide, rfl⟩
  · exact ⟨[120, 95, 121], ⟨by decide, by decide⟩, by decide, rfl⟩
def lim5 : List Int := [1664, 6, 7, 2, 3] ++ List.replicate 6 12 ++ List.replicate 6 2
theorem law_ok (ns : List Int) (hlen : ns.length ≤ 63) : d_law [.scr ns] = .ok (.bl true) := by
  obtain ⟨c, hc⟩ := law_cell_ok ns 0 (by decide)
  obtain ⟨c1, hc1⟩ := law_cell_ok ns 1 (by decide)
  obtain ⟨row, hrow, hrl, hB⟩ := law_row_ok c 1 lim5 (by decide) (by decide)
  have hrl : row.length = 17 := hrl
  have gx : ∀ k : Nat, k < 17 → atD (row.map D.int) (k : Int) = some (.int (row.getD k 0)) := fun k hk => at_eq (n := k) (mapG (getD_some (by omega))) rfl
  have x0 : atD (row.map D.int) 0 = some (.int (row.getD 0 0)) := gx 0 (by decide)
  have x1 : atD (row.map D.int) 1 = some (.int (row.getD 1 0)) := gx 1 (by decide)
  have x2 : atD (row.map D.int) 2 = some (.int (row.getD 2 0)) := gx 2 (by decide)
  have x3 : atD (row.map D.int) 3 = some (.int (row.getD 3 0)) := gx 3 (by decide)
  have x4 : atD (row.map D.int) 4 = some (.int (row.getD 4 0)) := gx 4 (by decide)
  obtain ⟨a0, a1⟩ := hB 0 _ 1664 (getD_some (l := row) (k := 0) (by omega)) rfl
  obtain ⟨b0, b1⟩ := hB 1 _ 6 (getD_some (l := row) (k := 1) (by omega)) rfl
  obtain ⟨n0, n1⟩ := hB 2 _ 7 (getD_some (l := row) (k := 2) (by omega)) rfl
  have d5 : ∀ k : Nat, k < 6 → ∃ v : Nat, atD (row.map D.int) (5 + (k : Int)) = some (.int v) ∧ v < 12 ∧ row.getD (5 + k) 0 = v := fun k hk => by
    obtain ⟨y0, y1⟩ := hB (5 + k) _ 12 (getD_some (l := row) (k := 5 + k) (by omega)) (by
      have : k = 0 ∨ k = 1 ∨ k = 2 ∨ k = 3 ∨ k = 4 ∨ k = 5 := by omega
      rcases this with rfl | rfl | rfl | rfl | rfl | rfl <;> rfl)
    refine ⟨(row.getD (5 + k) 0).toNat, ?_, by omega, by omega⟩
    rw [show (5 + (k : Int)) = ((5 + k : Nat) : Int) by omega, gx _ (by omega), show (((row.getD (5 + k) 0).toNat : Nat) : Int) = row.getD (5 + k) 0 by omega]
  have d11 : ∀ k : Nat, k < 6 → atD (row.map D.int) (11 + (k : Int)) = some (.int (row.getD (11 + k) 0)) := fun k hk => by
    rw [show (11 + (k : Int)) = ((11 + k : Nat) : Int) by omega, gx _ (by omega)]
  obtain ⟨ws, hw, hwl, hwd⟩ := words_ok a0 (by decide : 12 ≤ 62)
  obtain ⟨u, hu⟩ : ∃ z : Nat, row.getD 1 0 = z := ⟨(row.getD 1 0).toNat, by omega⟩
  obtain ⟨n, hn⟩ : ∃ z : Nat, row.getD 2 0 = z := ⟨(row.getD 2 0).toNat, by omega⟩
  rw [hu] at x1 b0 b1
  rw [hn] at x2 n0 n1
  have hw8 : Wds (ws.take 8) := ⟨fun w h => hw.w w (List.mem_of_mem_take h), hw.nd.sublist (List.take_sublist _ _), by rw [List.length_take]; have := hw.l; omega⟩
  obtain ⟨z, L, j, hz, hL, hj, hp⟩ := law_parts_ok c1 2 hw8 (by rw [List.length_take]; omega)
  have hLl := hL.l
  have lim : ∀ ρ, e2 oAdd (e2 oAdd (eLst (aCons (eC (.int 1664)) (aCons (eC (.int 6)) (aCons (eC (.int 7)) (aCons (eC (.int 2)) (aCons (eC (.int 3)) (aNil))))))) (e2 oMul (eLst (aCons (eC (.int 12)) (aNil))) (eC (.int 6)))) (e2 oMul (eLst (aCons (eC (.int 2)) (aNil))) (eC (.int 6))) ρ = .ok (.lst (lim5.map D.int)) := by
    intro ρ
    have e5 : oMul (.lst [.int 12]) (.int 6) = some (.lst ((List.replicate 6 (12 : Int)).map D.int)) := mul_lst (x := 12) (j := 6) (by decide)
    have e6 : oMul (.lst [.int 2]) (.int 6) = some (.lst ((List.replicate 6 (2 : Int)).map D.int)) := mul_lst (x := 2) (j := 6) (by decide)
    have ad : oAdd (.lst [.int 1664, .int 6, .int 7, .int 2, .int 3]) (.lst ((List.replicate 6 (12 : Int)).map D.int)) = some (.lst ([.int 1664, .int 6, .int 7, .int 2, .int 3] ++ (List.replicate 6 (12 : Int)).map D.int)) := p_addl (by rw [List.length_map, List.length_replicate]; show 5 + 6 ≤ 1000000; decide)
    have ad2 : oAdd (.lst ([.int 1664, .int 6, .int 7, .int 2, .int 3] ++ (List.replicate 6 (12 : Int)).map D.int)) (.lst ((List.replicate 6 (2 : Int)).map D.int)) = some (.lst (([.int 1664, .int 6, .int 7, .int 2, .int 3] ++ (List.replicate 6 (12 : Int)).map D.int) ++ (List.replicate 6 (2 : Int)).map D.int)) := p_addl (by rw [List.length_append, List.length_map, List.length_map, List.length_replicate, List.length_replicate]; show 5 + 6 + 6 ≤ 1000000; decide)
    rw [e2_ok (e2_ok (x := .lst [.int 1664, .int 6, .int 7, .int 2, .int 3]) (y := .lst ((List.replicate 6 (12 : Int)).map D.int)) (by simp -implicitDefEqProofs (disch := (first | assumption | omega | (simp only [ngs]; done) | decide)) only [ev, R.bind_ok, R.bind_ex, R.st_ok, R.st_ex, R.of_some, List.length_map]) (e2_ok (x := .lst [.int 12]) (y := .int 6) (by simp -implicitDefEqProofs (disch := (first | assumption | omega | (simp only [ngs]; done) | decide)) only [ev, R.bind_ok, R.bind_ex, R.st_ok, R.st_ex, R.of_some, List.length_map]) rfl e5) ad) (e2_ok (x := .lst [.int 2]) (y := .int 6) (by simp -implicitDefEqProofs (disch := (first | assumption | omega | (simp only [ngs]; done) | decide)) only [ev, R.bind_ok, R.bind_ex, R.st_ok, R.st_ex, R.of_some, List.length_map]) rfl e6) ad2]
    rfl
  have wc := fun c3 c4 c5 c6 c7 c8 c9 => word_comp (e := e2 oIx (eVar 1) (eC (.int 0))) (j := 10) (ρ := [some (.val (.scr ns)), some (.val (.lst (row.map D.int))), none, c3, c4, c5, c6, c7, c8, c9, none]) hwl (by decide) (fun k hk => hwd k (by omega)) rfl (fun x => ⟨_, rfl, by simp -implicitDefEqProofs (disch := (first | assumption | omega | (simp only [ngs]; done) | decide)) only [ev, R.bind_ok, R.bind_ex, R.st_ok, R.st_ex, R.of_some, List.length_map, x0], rfl⟩)
  have r12 : rngR (.int 12) = .ok ((List.range 12).map fun i : Nat => .int i) := rg_n (k := 12) (by decide)
  have rn : rngR (.int (n : Int)) = .ok ((List.range n).map fun i : Nat => .int i) := rg_n (k := n) (by omega)
  have wu : atD (stL ws) (u : Int) = some (.str (S (ws.getD u []))) := at_eq (n := u) (stL_at (by omega)) rfl
  have w0 : atD (stL ws) 0 = some (.str (S (ws.getD 0 []))) := at_eq (n := 0) (stL_at (by omega)) rfl
  have s8 : oSl none (some (8 : Int)) (.lst (stL ws)) = some (.lst (stL (ws.take 8))) := by
    rw [sl_to (by decide)]; unfold stL; rw [List.map_take]; rfl
  obtain ⟨B1, hB1⟩ : ∃ B : List BS, B = (List.range n).map fun k => (ws.getD k [], decide (row.getD (11 + k) 0 = 1)) := ⟨_, rfl⟩
  obtain ⟨B2, hB2⟩ : ∃ B : List BS, B = (List.range n).map fun k => (ws.getD (row.getD (5 + k) 0).toNat [], decide (row.getD (11 + k) 0 = 1)) := ⟨_, rfl⟩
  have B1l : B1.length = n := by rw [hB1, List.length_map, List.length_range]
  have B2l : B2.length = n := by rw [hB2, List.length_map, List.length_range]
  have B1w : ∀ b ∈ B1, isW b.1 = true := fun b hb => by
    rw [hB1] at hb
    obtain ⟨k, hk, rfl⟩ := List.mem_map.mp hb
    have := List.mem_range.mp hk
    exact hw.w _ (wmem (by omega))
  have B2w : ∀ b ∈ B2, isW b.1 = true := fun b hb => by
    rw [hB2] at hb
    obtain ⟨k, hk, rfl⟩ := List.mem_map.mp hb
    have := List.mem_range.mp hk
    obtain ⟨v, _, h2, h3⟩ := d5 k (by omega)
    exact hw.w _ (wmem (by show (row.getD (5 + k) 0).toNat < _; omega))
  have cm1 : ∀ a0 a3 a4 a5 a6 a7 a8 a9, compS (gVar 10) tYesD (eLst (aCons (e2 oIx (eVar 2) (eVar 10)) (aCons (e2 oEq (e2 oIx (eVar 1) (e2 oAdd (eC (.int 11)) (eVar 10))) (eC (.int 1))) aNil))) [10] [a0, some (.val (.lst (row.map D.int))), some (.val (.lst (stL ws))), a3, a4, a5, a6, a7, a8, a9, none] ((List.range n).map fun i : Nat => .int i) = .ok (.lst (B1.map lnD)) := by
    intro a0 a3 a4 a5 a6 a7 a8 a9
    rw [comp_map (fun i : Nat => .int i) (fun k => lnD (ws.getD k [], decide (row.getD (11 + k) 0 = 1))) (by rw [List.length_range]; omega) rfl (fun k hk => by
      have hk := List.mem_range.mp hk
      have q := stL_at (ws := ws) (k := k) (by omega)
      have q2 := d11 k (by omega)
      unfold cStep lnD
      simp -implicitDefEqProofs (disch := (first | assumption | omega | (simp only [ngs]; done) | decide)) only [ev, R.bind_ok, R.bind_ex, R.st_ok, R.st_ex, R.of_some, List.length_map, q, q2, if_true])]
    rw [hB1, List.map_map]; rfl
  have cm2 : ∀ a0 a3 a4 a5 a6 a7 a8 a9, compS (gVar 10) tYesD (eLst (aCons (e2 oIx (eVar 2) (e2 oIx (eVar 1) (e2 oAdd (eC (.int 5)) (eVar 10)))) (aCons (e2 oEq (e2 oIx (eVar 1) (e2 oAdd (eC (.int 11)) (eVar 10))) (eC (.int 1))) aNil))) [10] [a0, some (.val (.lst (row.map D.int))), some (.val (.lst (stL ws))), a3, a4, a5, a6, a7, a8, a9, none] ((List.range n).map fun i : Nat => .int i) = .ok (.lst (B2.map lnD)) := by
    intro a0 a3 a4 a5 a6 a7 a8 a9
    rw [comp_map (fun i : Nat => .int i) (fun k => lnD (ws.getD (row.getD (5 + k) 0).toNat [], decide (row.getD (11 + k) 0 = 1))) (by rw [List.length_range]; omega) rfl (fun k hk => by
      have hk := List.mem_range.mp hk
      obtain ⟨v, h1, h2, h3⟩ := d5 k (by omega)
      have q := stL_at (ws := ws) (k := v) (by omega)
      have q2 := d11 k (by omega)
      have e3 : (row.getD (5 + k) 0).toNat = v := by omega
      unfold cStep lnD
      rw [e3]
      simp -implicitDefEqProofs (disch := (first | assumption | omega | (simp only [ngs]; done) | decide)) only [ev, R.bind_ok, R.bind_ex, R.st_ok, R.st_ex, R.of_some, List.length_map, h1, q, q2, if_true])]
    rw [hB2, List.map_map]; rfl
  have s1 : oSl none (some (j : Int)) (.lst (stL L)) = some (.lst (stL (L.take j))) := by
    rw [sl_to (Int.natCast_nonneg j), Int.toNat_natCast]; unfold stL; rw [List.map_take]
  have s2 : oSl (some (j : Int)) none (.lst (stL L)) = some (.lst (stL (L.drop j))) := by
    rw [sl_from (Int.natCast_nonneg j), Int.toNat_natCast]; unfold stL; rw [List.map_drop]
  have td : L.take j ++ L.drop j = L := List.take_append_drop j L
  have m0 := mkdr_ok (r := ⟨ws.getD 0 [], [], [], []⟩) (nd := .tup []) (sd := .tup []) (bd := .tup []) ⟨hw.w _ (wmem (by omega)), by simp, by simp, by show 0 < 1000; decide, by simp, by simp, by show 0 < 1000; decide⟩ (.inr rfl) (.inr rfl) (.inr rfl)
  have sh0 := shows_ok (r := ⟨ws.getD 0 [], [], [], []⟩) ⟨hw.w _ (wmem (by omega)), by simp, by simp, by show 0 < 1000; decide, by simp, by simp, by show 0 < 1000; decide⟩
  simp only at m0
  have sh0 : d_law_shows [drD ⟨ws.getD 0 [], [], [], []⟩, .str (S (ws.getD 0 [])), .lst [], .lst [], .lst []] = .ok (.bl true) := sh0
  have main : ∀ (hd : Wd) (B : List BS) (t : Bool), Gd hd → B.length = n → (∀ b ∈ B, isW b.1 = true) → ∃ v w : Str, d_law_due [.str (S hd), .lst (stL L), .lst (B.map lnD)] = .ok (.tup [.str v, .str w]) ∧ d_law_asked [.str (S hd), .lst (stL (L.take j)), .lst (stL (L.drop j)), .lst (B.map lnD), .bl t] = .ok (.tup [.str v, .str w, .bl true]) ∧ oNe (.tup [.str v, .str w, .bl true]) (.tup [.str v, .str w, .bl true]) = some (.bl false) := by
    intro hd B t hg hBl hBw
    have a := due_ok (bs := B) hg hL.w (by omega) (by omega)
    have b := asked_ok (b := t) (hd := hd) (ns := L.take j) (ss := L.drop j) (bs := B) (by have := hg.1; omega) (by rw [td]; exact fun w hw => by have := (hL.w w hw).1; omega) (by rw [List.length_take, List.length_drop]; omega) (by omega) hBw
    rw [td] at b
    obtain ⟨v, w, e1, e2, o1, o2⟩ := dd_shape (du5 hd L B) fun y hy => by
      rcases du5_in hy with h | h | h
      · rw [h]; exact hg
      · exact hL.w _ h
      · obtain ⟨b, hb, e⟩ := List.mem_map.mp h
        rw [← e]; exact gd_W (hBw b hb)
    rw [e1] at a
    rw [e2] at b
    refine ⟨v, w, a, b, ne_self ?_⟩
    show (strOkD v && (strOkD w && (true && true))) = true
    rw [o1, o2]; rfl
  have hrow : d_law_row [.int c, .int 1, .lst (lim5.map D.int)] = .ok (.lst (row.map D.int)) := hrow
  have r4 := fun k : Int => (p_eqi (i := row.getD 4 0) (j := k))
  have r3 := fun k : Int => (p_eqi (i := row.getD 3 0) (j := k))
  obtain ⟨hd5, g5, h50, h5⟩ := head_ok (n : Int)
  have gu := gd_W (hw.w _ (wmem (k := u) (by omega)))
  have m5 : oMod (.int (n : Int)) (.int 5) = some (.int ((n : Int) % 5)) := p_mod (by decide)
  rw [e_law]
  unfold b_law
  generalize row.getD 4 0 = q4 at x4 r4
  generalize row.getD 3 0 = q3 at x3 r3
  by_cases hu5 : u = 5
  · have cu : decide ((u : Int) = 5) = true := decide_eq_true (by omega)
    by_cases h4 : q4 = 0
    · have c4 : decide (q4 = 0) = true := decide_eq_true h4
      obtain ⟨v, w, e1, e2, e3⟩ := main hd5 B2 (decide (q3 = 1)) g5 B2l B2w
      simp -implicitDefEqProofs (disch := (first | assumption | omega | (simp only [ngs]; done) | decide)) only [ev, ev2, R.bind_ok, R.bind_ex, R.st_ok, R.st_ex, R.of_some, List.length_map, hc, ↓lim, hrow, x0, ↓r12, wc, x1, wu, cu, x2, m5, h5, hc1, ↓s8, hp, rn, cm1, x4, c4, cm2, at_1, ↓s1, ↓s2, e1, x3, e2, ↓e3, w0, List.cons_append, List.nil_append, m0, sh0]
    · have c4 : decide (q4 = 0) = false := decide_eq_false h4
      obtain ⟨v, w, e1, e2, e3⟩ := main hd5 B1 (decide (q3 = 1)) g5 B1l B1w
      simp -implicitDefEqProofs (disch := (first | assumption | omega | (simp only [ngs]; done) | decide)) only [ev, ev2, R.bind_ok, R.bind_ex, R.st_ok, R.st_ex, R.of_some, List.length_map, hc, ↓lim, hrow, x0, ↓r12, wc, x1, wu, cu, x2, m5, h5, hc1, ↓s8, hp, rn, cm1, x4, c4, at_1, ↓s1, ↓s2, e1, x3, e2, ↓e3, w0, List.cons_append, List.nil_append, m0, sh0]
  · have cu : decide ((u : Int) = 5) = false := decide_eq_false (by omega)
    by_cases h4 : q4 = 0
    · have c4 : decide (q4 = 0) = true := decide_eq_true h4
      obtain ⟨v, w, e1, e2, e3⟩ := main (ws.getD u []) B2 (decide (q3 = 1)) gu B2l B2w
      simp -implicitDefEqProofs (disch := (first | assumption | omega | (simp only [ngs]; done) | decide)) only [ev, ev2, R.bind_ok, R.bind_ex, R.st_ok, R.st_ex, R.of_some, List.length_map, hc, ↓lim, hrow, x0, ↓r12, wc, x1, wu, cu, x2, hc1, ↓s8, hp, rn, cm1, x4, c4, cm2, at_1, ↓s1, ↓s2, e1, x3, e2, ↓e3, w0, List.cons_append, List.nil_append, m0, sh0]
    · have c4 : decide (q4 = 0) = false := decide_eq_false h4
      obtain ⟨v, w, e1, e2, e3⟩ := main (ws.getD u []) B1 (decide (q3 = 1)) gu B1l B1w
      simp -implicitDefEqProofs (disch := (first | assumption | omega | (simp only [ngs]; done) | decide)) only [ev, ev2, R.bind_ok, R.bind_ex, R.st_ok, R.st_ex, R.of_some, List.length_map, hc, ↓lim, hrow, x0, ↓r12, wc, x1, wu, cu, x2, hc1, ↓s8, hp, rn, cm1, x4, c4, at_1, ↓s1, ↓s2, e1, x3, e2, ↓e3, w0, List.cons_append, List.nil_append, m0, sh0]
end Tw

set_option maxHeartbeats 0
open PySem PySem.W PySem.Calls PyProof.Rows
theorem PySem.Challenge.cw_twicebased_k05_draft_holds : PySem.Challenge.rw_twicebased_k05_draft.Holds := by
  w_on; o_law
  refine HandSHeadRun.head_any (r := PySem.W.OpenLaw.row PySem.Challenge.rw_twicebased_k05_draft) (q := PySem.W.view (PySem.W.OpenLaw.row PySem.Challenge.rw_twicebased_k05_draft).prog [23]) (H := Tw.hkT) (ob := Tw.obT) (M := 30000) (loose := Tw.nm) (d := HandSHeadRun.topDef (PySem.W.OpenLaw.row PySem.Challenge.rw_twicebased_k05_draft).prog 23) (kwd := []) Tw.obT_eq
    (by kernel_rfl) (fun s => by kernel_rfl) Tw.runT (by kernel_rfl) (by kernel_rfl) (by kernel_rfl) (by rfl) (by first | assumption | decide +kernel) (by decide +kernel) ⟨rfl, rfl, rfl, rfl, rfl, by decide +kernel⟩ ?hw ?hc
  case hw => w_witness2
  case hc =>
    refine L2.walk_ofE (l := PySem.Challenge.rw_twicebased_k05_draft) (n := 63) (k := 7) (x := "_law_script") (CX := Tw.CXw (PySem.Challenge.rw_twicebased_k05_draft).prog) rfl (by decide) (by kernel_rfl) ⟨rfl, by decide, by decide⟩ ?F (fun _ _ _ _ z => z.no)
    intro w mg fa h Y G hmg0
    obtain ⟨K, KX, c⟩ := Y
    have hmg : mg ("law" : PySem.Str) = some (.ref fa) := by
      have e : (HandSHeadRun.topDef (PySem.W.OpenLaw.row PySem.Challenge.rw_twicebased_k05_draft).prog 23).name = ("law" : PySem.Str) := by kernel_rfl
      rw [← e]
      exact hmg0
    have F := Tw.fx_of KX G c
    have e := hmg.symm.trans F.g_law
    cases e
    have b := L2.FunD.bindsA (ps := ["_law_script"]) F.d_law.choose_spec fun _ _ _ _ _ _ us hl => match us, hl with | [_], _ => rfl
    exact ⟨K, F.d_law.choose, Tw.dsp (Tw.gg F) Tw.d_law, KX, fun s v => b s [v] rfl, fun H a ns hl _ hS => Tw.law_sp F Tw.law_ok H a ns hl hS, fun base _ _ => Tw.FnOk.anyW (Tw.f_law (w := w) (base := base) F).2.1⟩
