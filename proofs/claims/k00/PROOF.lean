import PyProof.Rows.All
import HandS.ForMost
import HandS.ForExc
import KE.KeyNested
import HandS.ExcInit
import HandS.Zip
import HandS.TupAny
import HandS.TupMul
import HandS.Deep
import HandS.IsInst
import HandS.NoneIn
import KE.SortData
import PyProof.ReprRoads
import PyProof.P3In
import HandS.TupLen
import HandS.More
import HandS.WordsDict
import HandS.Codes
import HandS.Dict
import PyProof.DictMoreH
import HandS.Iter
import HandS.DictComp
import HandS.Style
import HandS.ExcSuper
import HandS.TryMany
import HandS.TryOnly
import HandS.ExcField
import KE.KExcSuper
import KE.KSuper
import KE.GoesEnum
import HandS.Ends
import HandS.Call
import KE.KRevSl
import HandS.Strs
import PyProof.SumAny
import PyProof.Rows.StrReprFit
import HandS.FStr
import HandS.ExcIs
import KE.KTypeName
import KE.KExcIs
import KE.KExcMore
import HandS.ExcValue
import PySem.Challenge.RW_soonsure_k00_errors_with_their_data
import Wide.All
import OpenK.AllK
import Wide.FinOn
import KE.KExcLine
import KE.RegKIsAll
set_option Elab.async false
set_option linter.all false
set_option maxRecDepth 100000
/-! Ev1: deep values, an abstract heap by numbers, what relates them to the hand layer's V and Hp; ends of a run; the judgements. -/
namespace Ev
open PySem PySem.Spec PyProof.Rows L2

/-! ### deep values: data that never changes; an object by its number; a tuple that holds such; a def, a class by its number; a built-in class -/
inductive D where
  | p (d : PyData)
  | ref (i : Nat)
  | mt (ds : List D)
  | fn (i : Nat)
  | ty (s : String)
  | kl (ds : List PyData)

inductive O where
  | lst (ds : List D)
  | dict (kvs : List (PyData × D))
  | inst (c : Nat) (fs : List (Str × D))
  | exc (c : Nat) (fs : List (Str × D))

abbrev GH := List O
abbrev Rho := List (Option D)

/-! ### ends of runs -/
inductive Res (α : Type) where
  | ok (a : α) (G : GH)
  | exc (c : Nat) (fs : List (Str × D)) (G : GH)
  | stuck
inductive SRes where
  | nx (ρ : Rho) (G : GH)
  | rt (d : D) (G : GH)
  | bk (ρ : Rho) (G : GH)
  | ct (ρ : Rho) (G : GH)
  | exc (c : Nat) (fs : List (Str × D)) (ρ : Rho) (G : GH)
  | stuck

def Res.bind {α β : Type} (r : Res α) (k : α → GH → Res β) : Res β :=
  match r with
  | .ok a G => k a G
  | .exc c fs G => .exc c fs G
  | .stuck => .stuck
@[simp] theorem Res.bind_ok {α β : Type} (a : α) (G : GH) (k : α → GH → Res β) : (Res.ok a G).bind k = k a G := rfl
@[simp] theorem Res.bind_exc {α β : Type} (c : Nat) (fs : List (Str × D)) (G : GH) (k : α → GH → Res β) : (Res.exc c fs G : Res α).bind k = .exc c fs G := rfl
@[simp] theorem Res.bind_stuck {α β : Type} (k : α → GH → Res β) : (Res.stuck : Res α).bind k = .stuck := rfl
def Res.bindS {α : Type} (r : Res α) (ρ : Rho) (k : α → GH → SRes) : SRes :=
  match r with
  | .ok a G => k a G
  | .exc c fs G => .exc c fs ρ G
  | .stuck => .stuck
@[simp] theorem Res.bindS_ok {α : Type} (a : α) (ρ : Rho) (G : GH) (k : α → GH → SRes) : (Res.ok a G).bindS ρ k = k a G := rfl
@[simp] theorem Res.bindS_exc {α : Type} (c : Nat) (ρ : Rho) (fs : List (Str × D)) (G : GH) (k : α → GH → SRes) : (Res.exc c fs G : Res α).bindS ρ k = .exc c fs ρ G := rfl
@[simp] theorem Res.bindS_stuck {α : Type} (ρ : Rho) (k : α → GH → SRes) : (Res.stuck : Res α).bindS ρ k = .stuck := rfl

abbrev DE := Rho → GH → Res D
abbrev DT := Rho → GH → Res Bool
abbrev DA := Rho → GH → Res (List D)
abbrev DS := Rho → GH → SRes

/-! ### keys of dicts: data without bools -/
mutual
def keyOk : PyData → Bool
  | .none => true
  | .int _ => true
  | .str _ => true
  | .tuple ds => keysOk ds
  | .bool _ => false
  | .list _ => false
  | .dict _ => false
def keysOk : List PyData → Bool
  | [] => true
  | d :: ds => keyOk d && keysOk ds
end
mutual
def nk : PyData → NestedKey
  | .none => .none
  | .int i => .num i
  | .str x => .text x
  | .tuple ds => .tup (nks ds)
  | .bool _ => .none
  | .list _ => .none
  | .dict _ => .none
def nks : List PyData → List NestedKey
  | [] => []
  | d :: ds => nk d :: nks ds
end

/-! ### what stands for what -/
/-- what is fixed: the program, the world, the written part, the addresses of defs and classes -/
structure Cf where
  P : Program
  w : World
  K : PySem.W.Frag
  fa : Nat → Option Addr

/-- a dict whose keys are tuples: by its own object alone -/
def dN (P : Program) (w : World) (a : Addr) (xs : List (NestedKey × Addr × V)) : HO := .ext fun h => (a == sysModules) = false ∧ ∃ o es ep vs, h.get? a = some o ∧ o.ExactDict ∧ o.data = .dict es ep ∧
  Paired (fun (x : NestedKey × Addr × V) (y : NestedKey × Addr × Value) => x.1 = y.1 ∧ x.2.1 = y.2.1 ∧ RelV x.2.2 y.2.2) xs vs ∧ es.toList = vs.map (entryOfKey (nestedKind P w)) ∧ (xs.map (·.1)).Nodup

/-- a list that is only read -/
def SqK (K : PySem.W.Frag) (H : Hp) (a : Addr) (xs : List V) : Prop := (∃ o, H a = some (.frz o (.lst xs))) ∨
    ∃ (o : Obj) (its : Array Value) (n : Nat), K.lookup a = some o ∧ o.cls = .type "list" ∧ o.dict = none ∧ o.data = .seq its n ∧ its.size ≤ sizeLine ∧ Vals xs its.toList
section
variable (C : Cf) (θ : List Addr) (H : Hp)
mutual
inductive Rp : PyData → V → Prop
  | non : Rp .none .non
  | bl (b : Bool) : Rp (.bool b) (.bl b)
  | int (i : Int) : Rp (.int i) (.int i)
  | str (x : Str) : Rp (.str x) (.str x)
  | tup {a : Addr} {xs : List V} {ds : List PyData} : SqT C.K H a xs → RpL ds xs → Rp (.tuple ds) (.ref a)
inductive RpL : List PyData → List V → Prop
  | nil : RpL [] []
  | cons {d : PyData} {ds : List PyData} {v : V} {vs : List V} : Rp d v → RpL ds vs → RpL (d :: ds) (v :: vs)
end
mutual
inductive RV : D → V → Prop
  | p {d : PyData} {v : V} : Rp C H d v → RV (.p d) v
  | ref {i : Nat} {a : Addr} : θ[i]? = some a → RV (.ref i) (.ref a)
  | mt {a : Addr} {xs : List V} {ds : List D} : SqT C.K H a xs → RVL ds xs → RV (.mt ds) (.ref a)
  | fn {i : Nat} {a : Addr} : C.fa i = some a → RV (.fn i) (.ref a)
  | ty {s : String} : RV (.ty s) (.ty s)
  | kl {a : Addr} {xs : List V} {ds : List PyData} : SqK C.K H a xs → RpL C H ds xs → RV (.kl ds) (.ref a)
inductive RVL : List D → List V → Prop
  | nil : RVL [] []
  | cons {d : D} {ds : List D} {v : V} {vs : List V} : RV d v → RVL ds vs → RVL (d :: ds) (v :: vs)
end
/-- pairs by name -/
inductive RF : List (Str × D) → List (Str × V) → Prop
  | nil : RF [] []
  | cons {x : Str} {d : D} {ds : List (Str × D)} {v : V} {vs : List (Str × V)} : RV C θ H d v → RF ds vs → RF ((x, d) :: ds) ((x, v) :: vs)
/-- the entries of a dict with scalar keys -/
def kD : Key → PyData
  | .inl i => .int i
  | .inr x => .str x
inductive RKs : List (PyData × D) → List (Key × V) → Prop
  | nil : RKs [] []
  | cons {k : Key} {d : D} {ds : List (PyData × D)} {v : V} {vs : List (Key × V)} : RV C θ H d v → RKs ds vs → RKs ((kD k, d) :: ds) ((k, v) :: vs)
/-- .. with tuples -/
inductive RKt : List (PyData × D) → List (NestedKey × Addr × V) → Prop
  | nil : RKt [] []
  | cons {k : PyData} {a : Addr} {d : D} {ds : List (PyData × D)} {v : V} {vs : List (NestedKey × Addr × V)} : Rp C H k (.ref a) → keyOk k = true → (nk k).depth ≤ 8 → RV C θ H d v → RKt ds vs → RKt ((k, d) :: ds) ((nk k, a, v) :: vs)
/-- no tuple -/
def TF (u : Option HO) : Prop := (∀ xs, u ≠ some (.tup xs)) ∧ (∀ o v, u ≠ some (.frz o v)) ∧ (∀ a, u ≠ some (.own a)) ∧ ∀ vs, u ≠ some (.xd vs)
def RO (o : O) (a : Addr) : Prop :=
  match o with
  | .lst ds => ∃ xs, H a = some (.lst xs) ∧ RVL C θ H ds xs
  | .dict kvs => (∃ xs, H a = some (.dK xs) ∧ RKs C θ H kvs xs) ∨ ∃ xs, H a = some (dN C.P C.w a xs) ∧ (xs ≠ [] ∧ xs.length ≤ sizeLine) ∧ RKt C θ H kvs xs
  | .inst c fs => ∃ A dx vs, C.fa c = some A ∧ H a = some (.ins A dx vs) ∧ RF C θ H fs vs
  | .exc c fs => ∃ A, C.fa c = some A ∧ ((fs = [] ∧ H a = some (exo a A none)) ∨ ∃ d vs, H a = some (exo a A (some d)) ∧ H d = some (.xd vs) ∧ RF C θ H fs vs)
/-- the heap -/
structure Rel (G : GH) : Prop where
  len : θ.length = G.length
  nd : θ.Nodup
  tf : ∀ a ∈ θ, TF (H a)
  obj : ∀ (i : Nat) (o : O) (a : Addr), G[i]? = some o → θ[i]? = some a → RO C θ H o a
/-- the names -/
def REnv (ρ : Rho) (σ : L2.St) : Prop := ρ.length = σ.length ∧ ∀ (i : Nat) (d : D), ρ[i]? = some (some d) → ∃ v, σ[i]? = some (some v) ∧ RV C θ H d v
/-- an error of the class with number c, its data -/
def RX (c : Nat) (fs : List (Str × D)) (cls : Value) (dd : Option Addr) : Prop :=
  ∃ A, C.fa c = some A ∧ cls = .ref A ∧ ((fs = [] ∧ dd = none) ∨ ∃ d vs, dd = some d ∧ H d = some (.xd vs) ∧ (∀ x u, fs.lookup x = some u → ∃ v, vs.lookup x = some v ∧ RV C θ H u v) ∧ ∀ x, fs.lookup x = none → vs.lookup x = none)
end

/-- a step: objects are added, what is not ours stays -/
structure Step (θ : List Addr) (H : Hp) (θ' : List Addr) (H' : Hp) : Prop where
  pre : ∃ more, θ' = θ ++ more ∧ ∀ a ∈ more, H a = none
  keep : ∀ a o, H a = some o → a ∉ θ → H' a = some o
  there : ∀ a o, H a = some o → ∃ o', H' a = some o'

section
variable {C : Cf} {θ θ' θ₂ : List Addr} {H H' H₂ : Hp} {G : GH}
theorem Step.refl : Step θ H θ H := ⟨⟨[], by simp, fun _ h => absurd h (by simp)⟩, fun _ _ h _ => h, fun _ o h => ⟨o, h⟩⟩
theorem Step.pre1 (st : Step θ H θ' H') {i : Nat} {a : Addr} (h : θ[i]? = some a) : θ'[i]? = some a := by
  obtain ⟨more, e, _⟩ := st.pre
  rw [e, List.getElem?_append_left (List.getElem?_eq_some_iff.mp h).1]
  exact h
theorem Step.sub (st : Step θ H θ' H') {a : Addr} (h : a ∈ θ) : a ∈ θ' := by
  obtain ⟨more, e, _⟩ := st.pre
  rw [e]; exact List.mem_append_left _ h
theorem Step.trans (a : Step θ H θ' H') (b : Step θ' H' θ₂ H₂) : Step θ H θ₂ H₂ := by
  obtain ⟨m1, e1, f1⟩ := a.pre
  obtain ⟨m2, e2, f2⟩ := b.pre
  refine ⟨⟨m1 ++ m2, by rw [e2, e1, List.append_assoc], fun x hx => ?_⟩, fun x o h hn => ?_, fun x o h => ?_⟩
  · rcases List.mem_append.mp hx with h | h
    · exact f1 x h
    · cases q : H x with
      | none => rfl
      | some o =>
        obtain ⟨o', z⟩ := a.there x o q
        rw [f2 x h] at z; cases z
  · have h1 := a.keep x o h hn
    by_cases hx : x ∈ θ'
    · rw [e1] at hx
      rcases List.mem_append.mp hx with z | z
      · exact absurd z hn
      · rw [f1 x z] at h; cases h
    · exact b.keep x o h1 hx
  · obtain ⟨o', z⟩ := a.there x o h
    exact b.there x o' z

/-! ### what stays -/
theorem Rel.out (R : Rel C θ H G) {a : Addr} {xs : List V} (h : H a = some (.tup xs)) : a ∉ θ := fun m => (R.tf a m).1 xs h
theorem Rel.outF (R : Rel C θ H G) {a : Addr} {o : Obj} {u : HO} (h : H a = some (.frz o u)) : a ∉ θ := fun m => (R.tf a m).2.1 o u h
theorem SqK.step (R : Rel C θ H G) (st : Step θ H θ' H') {a : Addr} {xs : List V} (h : SqK C.K H a xs) : SqK C.K H' a xs := by
  rcases h with ⟨o, h⟩ | h
  · exact .inl ⟨o, st.keep _ _ h (R.outF h)⟩
  · exact .inr h
theorem SqK.sql {K : PySem.W.Frag} {a : Addr} {xs : List V} (h : SqK K H a xs) : SqL K H a xs := by
  rcases h with ⟨o, h⟩ | h
  · exact .inl (.inr ⟨o, h⟩)
  · exact .inr h
theorem SqT.step (R : Rel C θ H G) (st : Step θ H θ' H') {a : Addr} {xs : List V} (h : SqT C.K H a xs) : SqT C.K H' a xs := by
  rcases h with (h | ⟨o, h⟩) | h
  · exact .inl (.inl (st.keep _ _ h (R.out h)))
  · exact .inl (.inr ⟨o, st.keep _ _ h (R.outF h)⟩)
  · exact .inr h
mutual
theorem Rp.imp (ht : ∀ a xs, SqT C.K H a xs → SqT C.K H' a xs) : ∀ {d : PyData} {v : V}, Rp C H d v → Rp C H' d v
  | .none, _, .non => .non
  | .bool b, _, .bl _ => .bl b
  | .int i, _, .int _ => .int i
  | .str x, _, .str _ => .str x
  | .tuple _, _, .tup h1 h2 => .tup (ht _ _ h1) (RpL.imp ht h2)
theorem RpL.imp (ht : ∀ a xs, SqT C.K H a xs → SqT C.K H' a xs) : ∀ {ds : List PyData} {vs : List V}, RpL C H ds vs → RpL C H' ds vs
  | [], _, .nil => .nil
  | _ :: _, _, .cons h1 h2 => .cons (Rp.imp ht h1) (RpL.imp ht h2)
end
mutual
theorem RV.imp (ht : ∀ a xs, SqT C.K H a xs → SqT C.K H' a xs) (hk : ∀ a xs, SqK C.K H a xs → SqK C.K H' a xs) (hp : ∀ (i : Nat) (a : Addr), θ[i]? = some a → θ'[i]? = some a) : ∀ {d : D} {v : V}, RV C θ H d v → RV C θ' H' d v
  | .p _, _, .p h => .p (h.imp ht)
  | .ref _, _, .ref h => .ref (hp _ _ h)
  | .mt _, _, .mt h1 h2 => .mt (ht _ _ h1) (RVL.imp ht hk hp h2)
  | .fn _, _, .fn h => .fn h
  | .ty _, _, .ty => .ty
  | .kl _, _, .kl h1 h2 => .kl (hk _ _ h1) (RpL.imp ht h2)
theorem RVL.imp (ht : ∀ a xs, SqT C.K H a xs → SqT C.K H' a xs) (hk : ∀ a xs, SqK C.K H a xs → SqK C.K H' a xs) (hp : ∀ (i : Nat) (a : Addr), θ[i]? = some a → θ'[i]? = some a) : ∀ {ds : List D} {vs : List V}, RVL C θ H ds vs → RVL C θ' H' ds vs
  | [], _, .nil => .nil
  | _ :: _, _, .cons h1 h2 => .cons (RV.imp ht hk hp h1) (RVL.imp ht hk hp h2)
end
theorem RF.imp (ht : ∀ a xs, SqT C.K H a xs → SqT C.K H' a xs) (hk : ∀ a xs, SqK C.K H a xs → SqK C.K H' a xs) (hp : ∀ (i : Nat) (a : Addr), θ[i]? = some a → θ'[i]? = some a) {ds : List (Str × D)} {vs : List (Str × V)} (h : RF C θ H ds vs) : RF C θ' H' ds vs := by
  induction h with
  | nil => exact .nil
  | cons h _ ih => exact .cons (h.imp ht hk hp) ih
theorem RKs.imp (ht : ∀ a xs, SqT C.K H a xs → SqT C.K H' a xs) (hk : ∀ a xs, SqK C.K H a xs → SqK C.K H' a xs) (hp : ∀ (i : Nat) (a : Addr), θ[i]? = some a → θ'[i]? = some a) {ds : List (PyData × D)} {vs : List (Key × V)} (h : RKs C θ H ds vs) : RKs C θ' H' ds vs := by
  induction h with
  | nil => exact .nil
  | cons h _ ih => exact .cons (h.imp ht hk hp) ih
theorem RKt.imp (ht : ∀ a xs, SqT C.K H a xs → SqT C.K H' a xs) (hk : ∀ a xs, SqK C.K H a xs → SqK C.K H' a xs) (hp : ∀ (i : Nat) (a : Addr), θ[i]? = some a → θ'[i]? = some a) {ds : List (PyData × D)} {vs : List (NestedKey × Addr × V)} (h : RKt C θ H ds vs) : RKt C θ' H' ds vs := by
  induction h with
  | nil => exact .nil
  | cons h1 h2 h3 h4 _ ih => exact .cons (h1.imp ht) h2 h3 (h4.imp ht hk hp) ih
theorem REnv.imp (ht : ∀ a xs, SqT C.K H a xs → SqT C.K H' a xs) (hk : ∀ a xs, SqK C.K H a xs → SqK C.K H' a xs) (hp : ∀ (i : Nat) (a : Addr), θ[i]? = some a → θ'[i]? = some a) {ρ : Rho} {σ : L2.St} (h : REnv C θ H ρ σ) : REnv C θ' H' ρ σ :=
  ⟨h.1, fun i d e => let ⟨v, e2, r⟩ := h.2 i d e; ⟨v, e2, r.imp ht hk hp⟩⟩
theorem RO.imp {o : O} {a : Addr} (ht : ∀ a xs, SqT C.K H a xs → SqT C.K H' a xs) (hk : ∀ a xs, SqK C.K H a xs → SqK C.K H' a xs) (hp : ∀ (i : Nat) (a : Addr), θ[i]? = some a → θ'[i]? = some a) (ha : H' a = H a) (hx : ∀ d vs, H d = some (.xd vs) → H' d = some (.xd vs)) (h : RO C θ H o a) : RO C θ' H' o a := by
  cases o with
  | lst ds => obtain ⟨xs, e, r⟩ := h; exact ⟨xs, ha.trans e, r.imp ht hk hp⟩
  | dict kvs =>
    rcases h with ⟨xs, e, r⟩ | ⟨xs, e, z, r⟩
    · exact .inl ⟨xs, ha.trans e, r.imp ht hk hp⟩
    · exact .inr ⟨xs, ha.trans e, z, r.imp ht hk hp⟩
  | inst c fs => obtain ⟨A, dx, vs, e1, e2, r⟩ := h; exact ⟨A, dx, vs, e1, ha.trans e2, r.imp ht hk hp⟩
  | exc c fs =>
    obtain ⟨A, e1, ⟨e, e2⟩ | ⟨d, vs, e2, e3, r⟩⟩ := h
    · exact ⟨A, e1, .inl ⟨e, ha.trans e2⟩⟩
    · exact ⟨A, e1, .inr ⟨d, vs, ha.trans e2, hx _ _ e3, r.imp ht hk hp⟩⟩
theorem Rp.step (R : Rel C θ H G) (st : Step θ H θ' H') {d : PyData} {v : V} (h : Rp C H d v) : Rp C H' d v := h.imp fun _ _ => SqT.step R st
theorem RpL.step (R : Rel C θ H G) (st : Step θ H θ' H') {d : List PyData} {v : List V} (h : RpL C H d v) : RpL C H' d v := h.imp fun _ _ => SqT.step R st
theorem RV.step (R : Rel C θ H G) (st : Step θ H θ' H') {d : D} {v : V} (h : RV C θ H d v) : RV C θ' H' d v := h.imp (fun _ _ => SqT.step R st) (fun _ _ => SqK.step R st) fun _ _ => st.pre1
theorem RVL.step (R : Rel C θ H G) (st : Step θ H θ' H') {d : List D} {v : List V} (h : RVL C θ H d v) : RVL C θ' H' d v := h.imp (fun _ _ => SqT.step R st) (fun _ _ => SqK.step R st) fun _ _ => st.pre1
theorem RF.step (R : Rel C θ H G) (st : Step θ H θ' H') {ds : List (Str × D)} {vs : List (Str × V)} (h : RF C θ H ds vs) : RF C θ' H' ds vs := h.imp (fun _ _ => SqT.step R st) (fun _ _ => SqK.step R st) fun _ _ => st.pre1
theorem RKs.step (R : Rel C θ H G) (st : Step θ H θ' H') {ds : List (PyData × D)} {vs : List (Key × V)} (h : RKs C θ H ds vs) : RKs C θ' H' ds vs := h.imp (fun _ _ => SqT.step R st) (fun _ _ => SqK.step R st) fun _ _ => st.pre1
theorem RKt.step (R : Rel C θ H G) (st : Step θ H θ' H') {ds : List (PyData × D)} {vs : List (NestedKey × Addr × V)} (h : RKt C θ H ds vs) : RKt C θ' H' ds vs := h.imp (fun _ _ => SqT.step R st) (fun _ _ => SqK.step R st) fun _ _ => st.pre1
theorem REnv.step (R : Rel C θ H G) (st : Step θ H θ' H') {ρ : Rho} {σ : L2.St} (h : REnv C θ H ρ σ) : REnv C θ' H' ρ σ :=
  ⟨h.1, fun i d e => let ⟨v, e2, r⟩ := h.2 i d e; ⟨v, e2, r.step R st⟩⟩
theorem RVL.length : ∀ {ds : List D} {vs : List V}, RVL C θ H ds vs → ds.length = vs.length
  | [], _, .nil => rfl
  | _ :: _, _, .cons _ h => by simp [RVL.length h]
theorem RpL.length : ∀ {ds : List PyData} {vs : List V}, RpL C H ds vs → ds.length = vs.length
  | [], _, .nil => rfl
  | _ :: _, _, .cons _ h => by simp [RpL.length h]
theorem RVL.get : ∀ {ds : List D} {vs : List V} {i : Nat} {d : D}, RVL C θ H ds vs → ds[i]? = some d → ∃ v, vs[i]? = some v ∧ RV C θ H d v
  | [], _, _, _, .nil, h => by simp at h
  | _ :: _, _, 0, _, .cons r _, h => by simp at h; subst h; exact ⟨_, rfl, r⟩
  | _ :: _, _, i + 1, _, .cons _ r, h => by
    obtain ⟨v, h1, h2⟩ := RVL.get (i := i) r (by simpa using h)
    exact ⟨v, by simpa using h1, h2⟩
theorem RpL.get : ∀ {ds : List PyData} {vs : List V} {i : Nat} {d : PyData}, RpL C H ds vs → ds[i]? = some d → ∃ v, vs[i]? = some v ∧ Rp C H d v
  | [], _, _, _, .nil, h => by simp at h
  | _ :: _, _, 0, _, .cons r _, h => by simp at h; subst h; exact ⟨_, rfl, r⟩
  | _ :: _, _, i + 1, _, .cons _ r, h => by
    obtain ⟨v, h1, h2⟩ := RpL.get (i := i) r (by simpa using h)
    exact ⟨v, by simpa using h1, h2⟩
theorem RVL.append : ∀ {ds es : List D} {vs ws : List V}, RVL C θ H ds vs → RVL C θ H es ws → RVL C θ H (ds ++ es) (vs ++ ws)
  | [], _, _, _, .nil, s => s
  | _ :: _, _, _, _, .cons r t, s => .cons r (RVL.append t s)
theorem RpL.append : ∀ {ds es : List PyData} {vs ws : List V}, RpL C H ds vs → RpL C H es ws → RpL C H (ds ++ es) (vs ++ ws)
  | [], _, _, _, .nil, s => s
  | _ :: _, _, _, _, .cons r t, s => .cons r (RpL.append t s)
theorem RpL.rvl : ∀ {ds : List PyData} {vs : List V}, RpL C H ds vs → RVL C θ H (ds.map .p) vs
  | [], _, .nil => .nil
  | _ :: _, _, .cons r t => .cons (.p r) (RpL.rvl t)
theorem RVL.rpl : ∀ {ds : List PyData} {vs : List V}, RVL C θ H (ds.map .p) vs → RpL C H ds vs
  | [], _, .nil => .nil
  | _ :: _, _, .cons (.p r) t => .cons r (RVL.rpl t)
theorem RVL.take : ∀ {ds : List D} {vs : List V} (n : Nat), RVL C θ H ds vs → RVL C θ H (ds.take n) (vs.take n)
  | _, _, 0, _ => .nil
  | [], _, _ + 1, .nil => .nil
  | _ :: _, _, n + 1, .cons r t => .cons r (RVL.take n t)
theorem RVL.drop : ∀ {ds : List D} {vs : List V} (n : Nat), RVL C θ H ds vs → RVL C θ H (ds.drop n) (vs.drop n)
  | _, _, 0, h => h
  | [], _, _ + 1, .nil => .nil
  | _ :: _, _, n + 1, .cons _ t => RVL.drop n t
theorem RVL.set : ∀ {ds : List D} {vs : List V} (i : Nat) {d : D} {v : V}, RVL C θ H ds vs → RV C θ H d v → RVL C θ H (ds.set i d) (vs.set i v)
  | [], _, _, _, _, .nil, _ => .nil
  | _ :: _, _, 0, _, _, .cons _ t, h => .cons h t
  | _ :: _, _, n + 1, _, _, .cons r t, h => .cons r (RVL.set n t h)
theorem REnv.set {ρ : Rho} {σ : L2.St} {i : Nat} {d : D} {v : V} (h : REnv C θ H ρ σ) (r : RV C θ H d v) : REnv C θ H (ρ.set i (some d)) (σ.set i (some v)) := by
  refine ⟨by simpa using h.1, fun j e q => ?_⟩
  by_cases hj : i = j
  · subst hj
    have hl : i < ρ.length := by
      have := (List.getElem?_eq_some_iff.mp q).1
      simpa using this
    rw [List.getElem?_set_self hl] at q
    cases q
    exact ⟨v, by rw [List.getElem?_set_self (by rw [← h.1]; exact hl)], r⟩
  · rw [List.getElem?_set_ne hj] at q
    obtain ⟨u, h1, h2⟩ := h.2 j e q
    exact ⟨u, by rw [List.getElem?_set_ne hj]; exact h1, h2⟩

/-! ### heaps -/
theorem lt_of_some {α : Type} {l : List α} {i : Nat} {a : α} (h : l[i]? = some a) : i < l.length := (List.getElem?_eq_some_iff.mp h).1
theorem pre_app {θ m : List Addr} {i : Nat} {a : Addr} (h : θ[i]? = some a) : (θ ++ m)[i]? = some a := by
  rw [List.getElem?_append_left (lt_of_some h)]; exact h
theorem SqT.updI {K : PySem.W.Frag} {p : Addr} {o : HO} (hn : ∀ xs, H p ≠ some (.tup xs)) (hf : ∀ ob u, H p ≠ some (.frz ob u)) {a : Addr} {xs : List V} (h : SqT K H a xs) : SqT K (upd H p o) a xs := by
  rcases h with (h | ⟨ob, h⟩) | h
  · have e : a ≠ p := fun e => hn xs (by rw [← e]; exact h)
    exact .inl (.inl (by rw [upd_ne e]; exact h))
  · have e : a ≠ p := fun e => hf ob _ (by rw [← e]; exact h)
    exact .inl (.inr ⟨ob, by rw [upd_ne e]; exact h⟩)
  · exact .inr h
theorem SqK.updI {K : PySem.W.Frag} {p : Addr} {o : HO} (hf : ∀ ob u, H p ≠ some (.frz ob u)) {a : Addr} {xs : List V} (h : SqK K H a xs) : SqK K (upd H p o) a xs := by
  rcases h with ⟨ob, h⟩ | h
  · have e : a ≠ p := fun e => hf ob _ (by rw [← e]; exact h)
    exact .inl ⟨ob, by rw [upd_ne e]; exact h⟩
  · exact .inr h
theorem none_tup {p : Addr} (hn : H p = none) : ∀ xs, H p ≠ some (.tup xs) := fun xs q => by rw [hn] at q; cases q
theorem none_frz {p : Addr} (hn : H p = none) : ∀ ob u, H p ≠ some (.frz ob u) := fun xs u q => by rw [hn] at q; cases q
theorem SqT.updN {K : PySem.W.Frag} {p : Addr} {o : HO} (hn : H p = none) {a : Addr} {xs : List V} (h : SqT K H a xs) : SqT K (upd H p o) a xs := SqT.updI (none_tup hn) (none_frz hn) h
theorem SqK.updN {K : PySem.W.Frag} {p : Addr} {o : HO} (hn : H p = none) {a : Addr} {xs : List V} (h : SqK K H a xs) : SqK K (upd H p o) a xs := SqK.updI (none_frz hn) h
/-- our objects are tracked -/
theorem Rel.there (R : Rel C θ H G) {p : Addr} (hm : p ∈ θ) : ∃ u, H p = some u := by
  obtain ⟨i, hi⟩ := List.getElem?_of_mem hm
  have hlt := lt_of_some hi
  have hg : i < G.length := by rw [← R.len]; exact hlt
  have ho := R.obj i G[i] p (List.getElem?_eq_getElem hg) hi
  cases q : G[i] with
  | lst ds => rw [q] at ho; obtain ⟨xs, e, _⟩ := ho; exact ⟨_, e⟩
  | dict kvs =>
    rw [q] at ho
    rcases ho with ⟨xs, e, _⟩ | ⟨xs, e, _⟩
    · exact ⟨_, e⟩
    · exact ⟨_, e⟩
  | inst c fs => rw [q] at ho; obtain ⟨_, _, _, _, e, _⟩ := ho; exact ⟨_, e⟩
  | exc c fs =>
    rw [q] at ho
    obtain ⟨A, _, ⟨_, e⟩ | ⟨_, _, e, _⟩⟩ := ho
    · exact ⟨_, e⟩
    · exact ⟨_, e⟩
theorem Rel.notin (R : Rel C θ H G) {p : Addr} (hn : H p = none) : p ∉ θ := fun hm => by
  obtain ⟨u, e⟩ := R.there hm
  rw [hn] at e; cases e
theorem Rel.lt (R : Rel C θ H G) {i : Nat} {a : Addr} (h : θ[i]? = some a) : ∃ o, G[i]? = some o := by
  have := lt_of_some h
  rw [R.len] at this
  exact ⟨_, List.getElem?_eq_getElem this⟩
/-- something that is not ours is laid, or changed where no tuple stood -/
theorem none_xd {p : Addr} (hn : H p = none) : ∀ vs, H p ≠ some (.xd vs) := fun xs q => by rw [hn] at q; cases q
theorem xd_upd {p : Addr} {u : HO} (hx : ∀ vs, H p ≠ some (.xd vs)) : ∀ d vs, H d = some (.xd vs) → upd H p u d = some (.xd vs) := fun d vs h => by
  rw [upd_ne (fun e => hx vs (by rw [← e]; exact h))]; exact h
theorem Rel.out_upd (R : Rel C θ H G) {p : Addr} {u : HO} (hp : p ∉ θ) (hn : ∀ xs, H p ≠ some (.tup xs)) (hf : ∀ ob u, H p ≠ some (.frz ob u)) (hx : ∀ vs, H p ≠ some (.xd vs)) : Rel C θ (upd H p u) G := by
  have ne : ∀ a ∈ θ, a ≠ p := fun a ha e => hp (e ▸ ha)
  refine ⟨R.len, R.nd, fun a ha => by rw [upd_ne (ne a ha)]; exact R.tf a ha, fun i o a h1 h2 => ?_⟩
  exact RO.imp (fun _ _ => SqT.updI hn hf) (fun _ _ => SqK.updI hf) (fun _ _ h => h) (upd_ne (ne a (List.mem_of_getElem? h2))) (xd_upd hx) (R.obj i o a h1 h2)
theorem Step.newT {p : Addr} {u : HO} (hn : H p = none) : Step θ H θ (upd H p u) := by
  refine ⟨⟨[], by simp, fun _ h => absurd h (by simp)⟩, fun a o h _ => ?_, fun a o h => ?_⟩
  · rw [upd_ne (ne_of_none h hn)]; exact h
  · exact ⟨o, by rw [upd_ne (ne_of_none h hn)]; exact h⟩
/-- an object of ours is added -/
theorem Rel.push (R : Rel C θ H G) {p : Addr} {o : O} (hp : p ∉ θ) (ht : TF (H p)) (ho : RO C (θ ++ [p]) H o p) : Rel C (θ ++ [p]) H (G ++ [o]) := by
  refine ⟨by simp [R.len], ?_, fun a ha => ?_, fun i q a h1 h2 => ?_⟩
  · rw [List.nodup_append]
    refine ⟨R.nd, by simp, fun a ha b hb => ?_⟩
    have : b = p := by simpa using hb
    subst this
    exact fun e => hp (e ▸ ha)
  · rcases List.mem_append.mp ha with h | h
    · exact R.tf a h
    · have : a = p := by simpa using h
      rw [this]; exact ht
  · by_cases hi : i < θ.length
    · rw [List.getElem?_append_left hi] at h2
      rw [List.getElem?_append_left (by rw [← R.len]; exact hi)] at h1
      exact RO.imp (fun _ _ h => h) (fun _ _ h => h) (fun _ _ h => pre_app h) rfl (fun _ _ h => h) (R.obj i q a h1 h2)
    · have e : i = θ.length := by
        have := lt_of_some h2
        simp at this
        omega
      subst e
      have e2 : θ.length = G.length := R.len
      rw [List.getElem?_append_right (Nat.le_refl _), Nat.sub_self] at h2
      rw [e2, List.getElem?_append_right (Nat.le_refl _), Nat.sub_self] at h1
      cases h1; cases h2
      exact ho
theorem Step.push {p : Addr} (st : Step θ H θ' H') (hn : H p = none) : Step θ H (θ' ++ [p]) H' := by
  obtain ⟨more, e, f⟩ := st.pre
  refine ⟨⟨more ++ [p], by rw [e, List.append_assoc], fun a ha => ?_⟩, st.keep, st.there⟩
  rcases List.mem_append.mp ha with h | h
  · exact f a h
  · have : a = p := by simpa using h
    rw [this]; exact hn
/-- a step that does more at an address that was free -/
theorem Step.more {p : Addr} {u : HO} (st : Step θ H θ' H') (hn : H p = none) : Step θ H θ' (upd H' p u) :=
  ⟨st.pre, fun a o h hm => by rw [upd_ne (ne_of_none h hn)]; exact st.keep a o h hm, fun a o h => by
    obtain ⟨o', e⟩ := st.there a o h
    exact ⟨o', by rw [upd_ne (ne_of_none h hn)]; exact e⟩⟩
/-- a new object of ours -/
theorem Rel.alloc (R : Rel C θ H G) {p : Addr} {o : O} {u : HO} (hn : H p = none) (ht : TF (some u)) (ho : RO C (θ ++ [p]) (upd H p u) o p) : Rel C (θ ++ [p]) (upd H p u) (G ++ [o]) ∧ Step θ H (θ ++ [p]) (upd H p u) :=
  ⟨(R.out_upd (R.notin hn) (none_tup hn) (none_frz hn) (none_xd hn)).push (R.notin hn) (by rw [upd_same]; exact ht) ho, (Step.newT hn).push hn⟩
/-- an object of ours is changed -/
theorem Rel.write (R : Rel C θ H G) {i : Nat} {a : Addr} {o : O} {u : HO} (hi : θ[i]? = some a) (ht : TF (some u)) (ho : RO C θ (upd H a u) o a) : Rel C θ (upd H a u) (G.set i o) ∧ Step θ H θ (upd H a u) := by
  have ha := List.mem_of_getElem? hi
  have tf := R.tf a ha
  refine ⟨⟨by simp [R.len], R.nd, fun b hb => ?_, fun j q b h1 h2 => ?_⟩, ⟨⟨[], by simp, fun _ h => absurd h (by simp)⟩, fun b o h hm => ?_, fun b o h => ?_⟩⟩
  · by_cases e : b = a
    · rw [e, upd_same]; exact ht
    · rw [upd_ne e]; exact R.tf b hb
  · by_cases e : j = i
    · subst e
      have : b = a := Option.some.inj (h2.symm.trans hi)
      subst this
      have hl : j < G.length := by rw [← R.len]; exact lt_of_some hi
      rw [List.getElem?_set_self hl] at h1
      cases h1
      exact ho
    · rw [List.getElem?_set_ne (Ne.symm e)] at h1
      have ne : b ≠ a := fun z => e (by
        subst z
        obtain ⟨x1, y1⟩ := List.getElem?_eq_some_iff.mp h2
        obtain ⟨x2, y2⟩ := List.getElem?_eq_some_iff.mp hi
        exact (List.getElem_inj R.nd).mp (y1.trans y2.symm))
      exact RO.imp (fun _ _ => SqT.updI tf.1 tf.2.1) (fun _ _ => SqK.updI tf.2.1) (fun _ _ h => h) (upd_ne ne) (xd_upd tf.2.2.2) (R.obj j q b h1 h2)
  · have ne : b ≠ a := fun e => hm (by rw [e]; exact ha)
    rw [upd_ne ne]; exact h
  · by_cases e : b = a
    · exact ⟨u, by rw [e, upd_same]⟩
    · exact ⟨o, by rw [upd_ne e]; exact h⟩
theorem RV.updN {p : Addr} {u : HO} (hn : H p = none) {d : D} {v : V} (h : RV C θ H d v) : RV C θ (upd H p u) d v := h.imp (fun _ _ => SqT.updN hn) (fun _ _ => SqK.updN hn) fun _ _ h => h
theorem RVL.updN {p : Addr} {u : HO} (hn : H p = none) {d : List D} {v : List V} (h : RVL C θ H d v) : RVL C θ (upd H p u) d v := h.imp (fun _ _ => SqT.updN hn) (fun _ _ => SqK.updN hn) fun _ _ h => h
theorem RpL.updN {p : Addr} {u : HO} (hn : H p = none) {d : List PyData} {v : List V} (h : RpL C H d v) : RpL C (upd H p u) d v := h.imp fun _ _ => SqT.updN hn
theorem RVL.upd (R : Rel C θ H G) {a : Addr} {u : HO} (ha : a ∈ θ) {d : List D} {v : List V} (h : RVL C θ H d v) : RVL C θ (L2.upd H a u) d v := h.imp (fun _ _ => SqT.updI (R.tf a ha).1 (R.tf a ha).2.1) (fun _ _ => SqK.updI (R.tf a ha).2.1) fun _ _ h => h
theorem RF.upd (R : Rel C θ H G) {a : Addr} {u : HO} (ha : a ∈ θ) {d : List (Str × D)} {v : List (Str × V)} (h : RF C θ H d v) : RF C θ (L2.upd H a u) d v := h.imp (fun _ _ => SqT.updI (R.tf a ha).1 (R.tf a ha).2.1) (fun _ _ => SqK.updI (R.tf a ha).2.1) fun _ _ h => h
theorem RV.upd (R : Rel C θ H G) {a : Addr} {u : HO} (ha : a ∈ θ) {d : D} {v : V} (h : RV C θ H d v) : RV C θ (L2.upd H a u) d v := h.imp (fun _ _ => SqT.updI (R.tf a ha).1 (R.tf a ha).2.1) (fun _ _ => SqK.updI (R.tf a ha).2.1) fun _ _ h => h
theorem tf_lst {xs : List V} : TF (some (.lst xs)) := ⟨fun _ h => (by cases h), fun _ _ h => (by cases h), fun _ h => (by cases h), fun _ h => (by cases h)⟩
theorem tf_dK {xs : List (Key × V)} : TF (some (.dK xs)) := ⟨fun _ h => (by cases h), fun _ _ h => (by cases h), fun _ h => (by cases h), fun _ h => (by cases h)⟩
theorem tf_ins {A dx : Addr} {xs : List (Str × V)} : TF (some (.ins A dx xs)) := ⟨fun _ h => (by cases h), fun _ _ h => (by cases h), fun _ h => (by cases h), fun _ h => (by cases h)⟩
theorem tf_dN {P : Program} {w : World} {a : Addr} {xs : List (NestedKey × Addr × V)} : TF (some (dN P w a xs)) := ⟨fun _ h => (by unfold dN at h; cases h), fun _ _ h => (by unfold dN at h; cases h), fun _ h => (by unfold dN at h; cases h), fun _ h => (by unfold dN at h; cases h)⟩
theorem tf_exo {a A : Addr} {d : Option Addr} : TF (some (exo a A d)) := ⟨fun _ h => (by unfold exo at h; cases h), fun _ _ h => (by unfold exo at h; cases h), fun _ h => (by unfold exo at h; cases h), fun _ h => (by unfold exo at h; cases h)⟩
end
end Ev
set_option Elab.async false
set_option linter.all false
set_option maxRecDepth 100000
/-! Ev2: what is wanted of a run's end; the judgements; names, constants, operators, tests. -/
namespace Ev
open PySem PySem.Spec PyProof.Rows L2

section
variable (C : Cf) (θ : List Addr) (H : Hp)
def PostG {α : Type} (r : Res α) (P : α → GH → List Addr → Hp → Prop) (E : XK) : Prop :=
  match r with
  | .ok a G' => ∀ θ' H', Step θ H θ' H' → Rel C θ' H' G' → P a G' θ' H'
  | .exc c fs G' => ∀ θ' H' cls dd, Step θ H θ' H' → Rel C θ' H' G' → RX C θ' H' c fs cls dd → E cls dd H'
  | .stuck => False
def PostS (W : WX) (D : Ends) (r : SRes) : Prop :=
  match r with
  | .nx ρ' G' => ∀ θ' H' σ', Step θ H θ' H' → Rel C θ' H' G' → REnv C θ' H' ρ' σ' → D.nx σ' H'
  | .bk ρ' G' => ∀ θ' H' σ', Step θ H θ' H' → Rel C θ' H' G' → REnv C θ' H' ρ' σ' → D.bk σ' H'
  | .ct ρ' G' => ∀ θ' H' σ', Step θ H θ' H' → Rel C θ' H' G' → REnv C θ' H' ρ' σ' → D.ct σ' H'
  | .rt d G' => ∀ θ' H' v, Step θ H θ' H' → Rel C θ' H' G' → RV C θ' H' d v → D.rt v H'
  | .exc c fs ρ' G' => ∀ θ' H' σ' cls dd, Step θ H θ' H' → Rel C θ' H' G' → REnv C θ' H' ρ' σ' → RX C θ' H' c fs cls dd → W cls dd σ' H'
  | .stuck => False
end
section
variable {C : Cf} {θ : List Addr} {H : Hp}
theorem PostG.mono {α : Type} {r : Res α} {P P' : α → GH → List Addr → Hp → Prop} {E : XK} (h : PostG C θ H r P E)
    (k : ∀ a G' θ' H', Step θ H θ' H' → Rel C θ' H' G' → P a G' θ' H' → P' a G' θ' H') : PostG C θ H r P' E := by
  cases r with
  | ok a G' => exact fun θ' H' st R => k a G' θ' H' st R (h θ' H' st R)
  | exc c fs G' => exact h
  | stuck => exact h
theorem PostG.from {α : Type} {r : Res α} {P : α → GH → List Addr → Hp → Prop} {E : XK} {θ' : List Addr} {H' : Hp} (st : Step θ H θ' H') (h : PostG C θ H r P E) : PostG C θ' H' r P E := by
  cases r with
  | ok a G' => exact fun θ₂ H₂ s2 R => h θ₂ H₂ (st.trans s2) R
  | exc c fs G' => exact fun θ₂ H₂ cls dd s2 R x => h θ₂ H₂ cls dd (st.trans s2) R x
  | stuck => exact h
theorem PostG.bind {α β : Type} {r : Res α} {k : α → GH → Res β} {P : β → GH → List Addr → Hp → Prop} {E : XK} (h : PostG C θ H (r.bind k) P E) :
    PostG C θ H r (fun a G1 θ1 H1 => PostG C θ1 H1 (k a G1) P E) E := by
  cases r with
  | ok a G' => exact fun θ' H' st R => PostG.from st h
  | exc c fs G' => exact h
  | stuck => exact h
theorem PostS.from {W : WX} {D : Ends} {r : SRes} {θ' : List Addr} {H' : Hp} (st : Step θ H θ' H') (h : PostS C θ H W D r) : PostS C θ' H' W D r := by
  cases r with
  | nx ρ G => exact fun θ₂ H₂ σ s2 R e => h θ₂ H₂ σ (st.trans s2) R e
  | bk ρ G => exact fun θ₂ H₂ σ s2 R e => h θ₂ H₂ σ (st.trans s2) R e
  | ct ρ G => exact fun θ₂ H₂ σ s2 R e => h θ₂ H₂ σ (st.trans s2) R e
  | rt d G => exact fun θ₂ H₂ v s2 R e => h θ₂ H₂ v (st.trans s2) R e
  | exc c fs ρ G => exact fun θ₂ H₂ σ cls dd s2 R e x => h θ₂ H₂ σ cls dd (st.trans s2) R e x
  | stuck => exact h
/-- an expression within a statement -/
theorem PostS.bind {α : Type} {W : WX} {D : Ends} {r : Res α} {ρ : Rho} {σ : L2.St} {G : GH} {k : α → GH → SRes} (R : Rel C θ H G) (e : REnv C θ H ρ σ) (h : PostS C θ H W D (r.bindS ρ k)) :
    PostG C θ H r (fun a G1 θ1 H1 => PostS C θ1 H1 W D (k a G1)) (WE W σ) := by
  cases r with
  | ok a G' => exact fun θ' H' st R => PostS.from st h
  | exc c fs G' => exact fun θ' H' cls dd st R' x => h θ' H' σ cls dd st R' (e.step R st) x
  | stuck => exact h
end

/-! ### the judgements: the hand layer's, at the readings by meanings -/
abbrev cf (X : Cx) (fa : Nat → Option Addr) : Cf := ⟨X.prog, X.w, X.K, fa⟩
def canE (C : Cf) (W : WX) (m : DE) : TE := fun σ H Q => ∃ ρ θ G, Rel C θ H G ∧ REnv C θ H ρ σ ∧ PostG C θ H (m ρ G) (fun d _ θ' H' => ∀ v, RV C θ' H' d v → Q v H') (WE W σ)
def canT (C : Cf) (W : WX) (m : DT) : TT := fun σ H Q => ∃ ρ θ G, Rel C θ H G ∧ REnv C θ H ρ σ ∧ PostG C θ H (m ρ G) (fun b _ _ H' => Q b H') (WE W σ)
def canA (C : Cf) (W : WX) (m : DA) : TA := fun σ H Q => ∃ ρ θ G, Rel C θ H G ∧ REnv C θ H ρ σ ∧ PostG C θ H (m ρ G) (fun ds _ θ' H' => ∀ vs, RVL C θ' H' ds vs → Q vs H') (WE W σ)
def canS (C : Cf) (W : WX) (m : DS) : TS := fun D σ H => ∃ ρ θ G, Rel C θ H G ∧ REnv C θ H ρ σ ∧ PostS C θ H W D (m ρ G)
abbrev SE (X : Cx) (fa : Nat → Option Addr) (W : WX) (e : Expr) (m : DE) : Prop := PE X e (canE (cf X fa) W m)
abbrev ST (X : Cx) (fa : Nat → Option Addr) (W : WX) (e : Expr) (m : DT) : Prop := PT X e (canT (cf X fa) W m)
abbrev SW (X : Cx) (fa : Nat → Option Addr) (W : WX) (e : Expr) (m : DT) : Prop := PW X e (canT (cf X fa) W m)
abbrev SA (X : Cx) (fa : Nat → Option Addr) (W : WX) (es : List Expr) (m : DA) : Prop := PA X es (canA (cf X fa) W m)
abbrev SS (X : Cx) (fa : Nat → Option Addr) (W : WX) (st : Stmt) (m : DS) : Prop := PS X st (canS (cf X fa) W m)
abbrev SSs (X : Cx) (fa : Nat → Option Addr) (W : WX) (st : List Stmt) (m : DS) : Prop := PSs X st (canS (cf X fa) W m)

section
variable {X : Cx}
theorem wkE {e : Expr} {t t' : TE} (h : PE X e t) (k : ∀ σ H Q, t' σ H Q → t σ H Q) : PE X e t' := ⟨fun pins s σ H Q I q => h.run pins s σ H Q I (k σ H Q q)⟩
theorem wkT {e : Expr} {t t' : TT} (h : PT X e t) (k : ∀ σ H Q, t' σ H Q → t σ H Q) : PT X e t' := ⟨fun pins s σ H Q I q => h.run pins s σ H Q I (k σ H Q q)⟩
theorem wkW {e : Expr} {t t' : TT} (h : PW X e t) (k : ∀ σ H Q, t' σ H Q → t σ H Q) : PW X e t' := ⟨fun wh pins s σ H Q I q => h.run wh pins s σ H Q I (k σ H Q q)⟩
theorem wkA {es : List Expr} {t t' : TA} (h : PA X es t) (k : ∀ σ H Q, t' σ H Q → t σ H Q) : PA X es t' := ⟨fun pos pins s σ H Q I q => h.run pos pins s σ H Q I (k σ H Q q)⟩
theorem wkS {st : Stmt} {t t' : TS} (h : PS X st t) (k : ∀ D σ H, t' D σ H → t D σ H) : PS X st t' := ⟨fun pins s σ H D I q => h.run pins s σ H D I (k D σ H q)⟩
theorem wkSs {st : List Stmt} {t t' : TS} (h : PSs X st t) (k : ∀ D σ H, t' D σ H → t D σ H) : PSs X st t' := ⟨fun pins s σ H D I q => h.run pins s σ H D I (k D σ H q)⟩
end

section
variable {C : Cf} {W : WX} {σ : L2.St} {H : Hp} {Q : VK} {ρ : Rho} {θ : List Addr} {G : GH}
/-- an expression, then what follows: the way most readings are met -/
theorem runE {m : DE} {β : Type} {k : D → GH → Res β} {P : β → GH → List Addr → Hp → Prop} (R : Rel C θ H G) (e : REnv C θ H ρ σ) (h : PostG C θ H ((m ρ G).bind k) P (WE W σ)) {Q : VK}
    (q : ∀ d G1 θ1 H1 v, Step θ H θ1 H1 → Rel C θ1 H1 G1 → REnv C θ1 H1 ρ σ → RV C θ1 H1 d v → PostG C θ1 H1 (k d G1) P (WE W σ) → Q v H1) : canE C W m σ H Q :=
  ⟨ρ, θ, G, R, e, h.bind.mono fun d G1 θ1 H1 st R1 p v r => q d G1 θ1 H1 v st R1 (e.step R st) r p⟩
theorem runE1 {m : DE} {P : D → GH → List Addr → Hp → Prop} (R : Rel C θ H G) (e : REnv C θ H ρ σ) (h : PostG C θ H (m ρ G) P (WE W σ)) {Q : VK}
    (q : ∀ d G1 θ1 H1 v, Step θ H θ1 H1 → Rel C θ1 H1 G1 → REnv C θ1 H1 ρ σ → RV C θ1 H1 d v → P d G1 θ1 H1 → Q v H1) : canE C W m σ H Q :=
  ⟨ρ, θ, G, R, e, h.mono fun d G1 θ1 H1 st R1 p v r => q d G1 θ1 H1 v st R1 (e.step R st) r p⟩
theorem runT {m : DT} {β : Type} {k : Bool → GH → Res β} {P : β → GH → List Addr → Hp → Prop} (R : Rel C θ H G) (e : REnv C θ H ρ σ) (h : PostG C θ H ((m ρ G).bind k) P (WE W σ)) {Q : Bool → Hp → Prop}
    (q : ∀ d G1 θ1 H1, Step θ H θ1 H1 → Rel C θ1 H1 G1 → REnv C θ1 H1 ρ σ → PostG C θ1 H1 (k d G1) P (WE W σ) → Q d H1) : canT C W m σ H Q :=
  ⟨ρ, θ, G, R, e, h.bind.mono fun d G1 θ1 H1 st R1 p => q d G1 θ1 H1 st R1 (e.step R st) p⟩
theorem runA {m : DA} {β : Type} {k : List D → GH → Res β} {P : β → GH → List Addr → Hp → Prop} (R : Rel C θ H G) (e : REnv C θ H ρ σ) (h : PostG C θ H ((m ρ G).bind k) P (WE W σ)) {Q : List V → Hp → Prop}
    (q : ∀ ds G1 θ1 H1 vs, Step θ H θ1 H1 → Rel C θ1 H1 G1 → REnv C θ1 H1 ρ σ → RVL C θ1 H1 ds vs → PostG C θ1 H1 (k ds G1) P (WE W σ) → Q vs H1) : canA C W m σ H Q :=
  ⟨ρ, θ, G, R, e, h.bind.mono fun d G1 θ1 H1 st R1 p v r => q d G1 θ1 H1 v st R1 (e.step R st) r p⟩
theorem runSE {m : DE} {Y : Ends} {k : D → GH → SRes} (R : Rel C θ H G) (e : REnv C θ H ρ σ) (h : PostS C θ H W Y ((m ρ G).bindS ρ k)) {Q : VK}
    (q : ∀ d G1 θ1 H1 v, Step θ H θ1 H1 → Rel C θ1 H1 G1 → REnv C θ1 H1 ρ σ → RV C θ1 H1 d v → PostS C θ1 H1 W Y (k d G1) → Q v H1) : canE C W m σ H Q :=
  ⟨ρ, θ, G, R, e, (h.bind R e).mono fun d G1 θ1 H1 st R1 p v r => q d G1 θ1 H1 v st R1 (e.step R st) r p⟩
theorem runST {m : DT} {D : Ends} (R : Rel C θ H G) (e : REnv C θ H ρ σ) {k : Bool → GH → SRes} (h : PostS C θ H W D ((m ρ G).bindS ρ k)) {Q : Bool → Hp → Prop}
    (q : ∀ d G1 θ1 H1, Step θ H θ1 H1 → Rel C θ1 H1 G1 → REnv C θ1 H1 ρ σ → PostS C θ1 H1 W D (k d G1) → Q d H1) : canT C W m σ H Q :=
  ⟨ρ, θ, G, R, e, (h.bind R e).mono fun d G1 θ1 H1 st R1 p => q d G1 θ1 H1 st R1 (e.step R st) p⟩
/-- an end that is a value at once -/
theorem PostG.now {α : Type} {a : α} {P : α → GH → List Addr → Hp → Prop} {E : XK} (R : Rel C θ H G) (h : PostG C θ H (.ok a G) P E) : P a G θ H := h θ H Step.refl R
end

/-! ### names and constants -/
def eVar (i : Nat) : DE := fun ρ G => match ρ[i]? with | some (some d) => .ok d G | _ => .stuck
def eC (d : D) : DE := fun _ G => .ok d G
section
variable {X : Cx} {fa : Nat → Option Addr} {W : WX}
theorem se_var {i : Nat} {x : Str} {pos : Pos} (hN : X.N[i]? = some x) (hv : Vis X.env.scope x) (hd : (x == ("__debug__" : Str)) = false := by decide) (hcd : (x == ("__classdict__" : Str)) = false := by decide) : SE X fa W (.Name x pos) (eVar i) := by
  refine wkE (pe_var (i := i) hN hv hd hcd) fun σ H Q ⟨ρ, θ, G, R, e, h⟩ => ?_
  unfold eVar at h
  cases q : ρ[i]? with
  | none => simp only [q] at h; exact h.elim
  | some o =>
    cases o with
    | none => simp only [q] at h; exact h.elim
    | some d =>
      simp only [q] at h
      obtain ⟨v, h1, h2⟩ := e.2 i d q
      exact ⟨v, h1, h θ H Step.refl R v h2⟩
theorem se_const {e : Expr} {d : D} {v : V} (h : PE X e (tC v)) (r : ∀ θ H, RV (cf X fa) θ H d v) : SE X fa W e (eC d) :=
  wkE h fun σ H Q ⟨ρ, θ, G, R, e, q⟩ => q θ H Step.refl R v (r θ H)
theorem se_int {i : Int} {j : Nat} {pos : Pos} : SE X fa W (.Constant (.int i) j pos) (eC (.p (.int i))) := se_const pe_int fun _ _ => .p (.int i)
theorem se_bl {b : Bool} {j : Nat} {pos : Pos} : SE X fa W (.Constant (.bool b) j pos) (eC (.p (.bool b))) := se_const pe_bl fun _ _ => .p (.bl b)
theorem se_non {j : Nat} {pos : Pos} : SE X fa W (.Constant .none j pos) (eC (.p .none)) := se_const pe_non fun _ _ => .p .non
theorem se_str {x : Str} {j : Nat} {pos : Pos} : SE X fa W (.Constant (.str x) j pos) (eC (.p (.str x))) := se_const pe_str fun _ _ => .p (.str x)
/-- a def or a class of the module as a value -/
theorem se_fn {x : Str} {i : Nat} {a : Addr} {pos : Pos} (hg : Gl X x) (hm : X.mg x = some (.ref a)) (hf : fa i = some a) (hd : (x == ("__debug__" : Str)) = false := by decide) : SE X fa W (.Name x pos) (eC (.fn i)) :=
  se_const (pe_glob (v := .ref a) hg hm rfl hd) fun _ _ => .fn hf
/-- a constant of the module -/
theorem se_glob {x : Str} {d : D} {v : V} {u : Value} {pos : Pos} (hg : Gl X x) (hm : X.mg x = some u) (r : RelV v u) (hr : ∀ θ H, RV (cf X fa) θ H d v) (hd : (x == ("__debug__" : Str)) = false := by decide) : SE X fa W (.Name x pos) (eC d) :=
  se_const (pe_glob hg hm r hd) hr
end

/-! ### operators -/
abbrev Op2 := D → D → GH → Res D
def OpD (C : Cf) (f : Op2) (r : R2) : Prop := ∀ θ G H d e v w Q (E : XK), Rel C θ H G → RV C θ H d v → RV C θ H e w → PostG C θ H (f d e G) (fun d' _ θ' H' => ∀ u, RV C θ' H' d' u → Q u H') E → r v w H Q
abbrev Cm2 := D → D → GH → Option Bool
def CmpD (C : Cf) (f : Cm2) (r : R2) : Prop := ∀ θ G H d e v w (Q : VK) b, Rel C θ H G → RV C θ H d v → RV C θ H e w → f d e G = some b → Q (.bl b) H → r v w H Q
def eBin (f : Op2) (a b : DE) : DE := fun ρ G => (a ρ G).bind fun x G => (b ρ G).bind fun y G => f x y G
def oB (o : Option Bool) (G : GH) : Res Bool := match o with | some b => .ok b G | none => .stuck
def bD (r : Res Bool) : Res D := r.bind fun b G => .ok (.p (.bool b)) G
def tCmp (f : Cm2) (a b : DE) : DT := fun ρ G => (a ρ G).bind fun x G => (b ρ G).bind fun y G => oB (f x y G) G
def eOfT (t : DT) : DE := fun ρ G => bD (t ρ G)
def tChain (f g : Cm2) (a b c : DE) : DT := fun ρ G => (a ρ G).bind fun x G => (b ρ G).bind fun y G => (oB (f x y G) G).bind fun k G =>
  if k then (c ρ G).bind fun z G => oB (g y z G) G else .ok false G
section
variable {X : Cx} {fa : Nat → Option Addr} {W : WX} {a b c : Expr} {ma mb mc : DE} {pos : Pos}
theorem se_bin {op : Operator} {r : R2} {f : Op2} (ho : OpR X (binaryOp op) r) (hf : OpD (cf X fa) f r) (ha : SE X fa W a ma) (hb : SE X fa W b mb) : SE X fa W (.BinOp a op b pos) (eBin f ma mb) := by
  refine wkE (pe_op ho ha hb) fun σ H Q ⟨ρ, θ, G, R, e, h⟩ => ?_
  refine runE R e h fun d G1 θ1 H1 v st1 R1 e1 rv h1 => ?_
  refine runE R1 e1 h1 fun d2 G2 θ2 H2 w st2 R2 e2 rw h2 => ?_
  exact hf θ2 G2 H2 d d2 v w Q _ R2 (rv.step R1 st2) rw h2
theorem PostG.oB {C : Cf} {θ : List Addr} {H : Hp} {G : GH} {o : Option Bool} {P : Bool → GH → List Addr → Hp → Prop} {E : XK} (R : Rel C θ H G) (h : PostG C θ H (oB o G) P E) : ∃ k, o = some k ∧ P k G θ H := by
  cases o with
  | none => exact h.elim
  | some k => exact ⟨k, rfl, h θ H Step.refl R⟩
theorem se_cmp {op : CmpOp} {r : R2} {f : Cm2} (ho : OpR X (compareOp op) r) (hf : CmpD (cf X fa) f r) (ha : SE X fa W a ma) (hb : SE X fa W b mb) (hm : behindInMarks op b = false) : SE X fa W (.Compare a [op] [b] pos) (eOfT (tCmp f ma mb)) := by
  refine wkE (pe_cmpR ho ha hb hm) fun σ H Q ⟨ρ, θ, G, R, e, h⟩ => ?_
  have h := h.bind
  refine runE R e h fun d G1 θ1 H1 v st1 R1 e1 rv h1 => ?_
  refine runE R1 e1 h1 fun d2 G2 θ2 H2 w st2 R2 e2 rw h2 => ?_
  obtain ⟨k, hk, q⟩ := PostG.oB R2 h2
  exact hf θ2 G2 H2 d d2 v w Q k R2 (rv.step R1 st2) rw hk (q θ2 H2 Step.refl R2 (.bl k) (.p (.bl k)))
theorem st_cmp {op : CmpOp} {r : R2} {f : Cm2} (ho : OpR X (compareOp op) r) (hf : CmpD (cf X fa) f r) (ha : SE X fa W a ma) (hb : SE X fa W b mb) (hm : behindInMarks op b = false) : ST X fa W (.Compare a [op] [b] pos) (tCmp f ma mb) := by
  refine wkT (pt_cmpR ho ha hb hm) fun σ H Q ⟨ρ, θ, G, R, e, h⟩ => ?_
  refine runE R e h fun d G1 θ1 H1 v st1 R1 e1 rv h1 => ?_
  refine runE R1 e1 h1 fun d2 G2 θ2 H2 w st2 R2 e2 rw h2 => ?_
  obtain ⟨k, hk, q⟩ := PostG.oB R2 h2
  exact hf θ2 G2 H2 d d2 v w _ k R2 (rv.step R1 st2) rw hk ⟨k, rfl, q⟩
theorem se_chain {op op' : CmpOp} {r r' : R2} {f g : Cm2} (ho : OpR X (compareOp op) r) (hf : CmpD (cf X fa) f r) (ho' : OpR X (compareOp op') r') (hg : CmpD (cf X fa) g r') (ha : SE X fa W a ma) (hb : SE X fa W b mb) (hc : SE X fa W c mc)
    (hm : lastMarks [op, op'] [b, c] = false := by with_unfolding_all rfl) : SE X fa W (.Compare a [op, op'] [b, c] pos) (eOfT (tChain f g ma mb mc)) := by
  refine wkE (pe_chain ho ho' ha hb hc hm) fun σ H Q ⟨ρ, θ, G, R, e, h⟩ => ?_
  have h := h.bind
  refine runE R e h fun d G1 θ1 H1 v st1 R1 e1 rv h1 => ?_
  refine runE R1 e1 h1 fun d2 G2 θ2 H2 w st2 R2 e2 rw h2 => ?_
  obtain ⟨k, hk, q⟩ := PostG.oB R2 h2.bind
  refine hf θ2 G2 H2 d d2 v w _ k R2 (rv.step R1 st2) rw hk ⟨k, rfl, ?_⟩
  cases k with
  | false => exact (q.now R2) θ2 H2 Step.refl R2 (.bl false) (.p (.bl false))
  | true =>
    refine runE R2 e2 q fun d3 G3 θ3 H3 z st3 R3 e3 rz h3 => ?_
    obtain ⟨k', hk', q'⟩ := PostG.oB R3 h3
    exact hg θ3 G3 H3 d2 d3 w z Q k' R3 (rw.step R2 st3) rz hk' (q' θ3 H3 Step.refl R3 (.bl k') (.p (.bl k')))
theorem st_chain {op op' : CmpOp} {r r' : R2} {f g : Cm2} (ho : OpR X (compareOp op) r) (hf : CmpD (cf X fa) f r) (ho' : OpR X (compareOp op') r') (hg : CmpD (cf X fa) g r') (ha : SE X fa W a ma) (hb : SE X fa W b mb) (hc : SE X fa W c mc)
    (hm : lastMarks [op, op'] [b, c] = false := by with_unfolding_all rfl) : ST X fa W (.Compare a [op, op'] [b, c] pos) (tChain f g ma mb mc) := by
  refine wkT (pt_chain ho ho' ha hb hc hm) fun σ H Q ⟨ρ, θ, G, R, e, h⟩ => ?_
  refine runE R e h fun d G1 θ1 H1 v st1 R1 e1 rv h1 => ?_
  refine runE R1 e1 h1 fun d2 G2 θ2 H2 w st2 R2 e2 rw h2 => ?_
  obtain ⟨k, hk, q⟩ := PostG.oB R2 h2.bind
  refine hf θ2 G2 H2 d d2 v w _ k R2 (rv.step R1 st2) rw hk ⟨k, rfl, ?_⟩
  cases k with
  | false => exact ⟨false, rfl, q.now R2⟩
  | true =>
    refine runE R2 e2 q fun d3 G3 θ3 H3 z st3 R3 e3 rz h3 => ?_
    obtain ⟨k', hk', q'⟩ := PostG.oB R3 h3
    exact hg θ3 G3 H3 d2 d3 w z _ k' R3 (rw.step R2 st3) rz hk' ⟨k', rfl, q'⟩

/-! ### tests -/
def tNotD (t : DT) : DT := fun ρ G => (t ρ G).bind fun b G => .ok (!b) G
def tAndD (t u : DT) : DT := fun ρ G => (t ρ G).bind fun b G => if b then u ρ G else .ok false G
def tOrD (t u : DT) : DT := fun ρ G => (t ρ G).bind fun b G => if b then .ok true G else u ρ G
/-- a value that is a truth -/
def tOfE (e : DE) : DT := fun ρ G => (e ρ G).bind fun d G => match d with | .p (.bool b) => .ok b G | _ => .stuck
variable {ta tb : DT} {rest : List Expr}
theorem st_not (h : ST X fa W a ta) : ST X fa W (.UnaryOp .Not a pos) (tNotD ta) := by
  refine wkT (pt_not h) fun σ H Q ⟨ρ, θ, G, R, e, h⟩ => ?_
  exact runT R e h fun k G1 θ1 H1 st1 R1 e1 h1 => h1.now R1
theorem sw_and1 (h : ST X fa W a ta) : SW X fa W (.BoolOp .And [a] pos) ta := pw_and1 h
theorem sw_or1 (h : ST X fa W a ta) : SW X fa W (.BoolOp .Or [a] pos) ta := pw_or1 h
theorem sw_and (h : ST X fa W a ta) (h' : SW X fa W (.BoolOp .And (b :: rest) pos) tb) : SW X fa W (.BoolOp .And (a :: b :: rest) pos) (tAndD ta tb) := by
  refine wkW (pw_and h h') fun σ H Q ⟨ρ, θ, G, R, e, h⟩ => ?_
  refine runT R e h fun k G1 θ1 H1 st1 R1 e1 h1 => ?_
  cases k with
  | true => exact ⟨ρ, θ1, G1, R1, e1, h1⟩
  | false => exact h1.now R1
theorem sw_or (h : ST X fa W a ta) (h' : SW X fa W (.BoolOp .Or (b :: rest) pos) tb) : SW X fa W (.BoolOp .Or (a :: b :: rest) pos) (tOrD ta tb) := by
  refine wkW (pw_or h h') fun σ H Q ⟨ρ, θ, G, R, e, h⟩ => ?_
  refine runT R e h fun k G1 θ1 H1 st1 R1 e1 h1 => ?_
  cases k with
  | true => exact h1.now R1
  | false => exact ⟨ρ, θ1, G1, R1, e1, h1⟩
theorem st_val (h : SE X fa W a ma) (he : ∀ whole, isTrue a X.env whole = (do let v ← whole; standAt a.pos; holding [v] (truthy v)) := by intro _; rfl) : ST X fa W a (tOfE ma) := by
  refine wkT (pt_val h he) fun σ H Q ⟨ρ, θ, G, R, e, h⟩ => ?_
  refine runE R e h fun d G1 θ1 H1 v st1 R1 e1 rv h1 => ?_
  cases rv with
  | p r =>
    cases r with
    | bl k => exact ⟨k, rfl, h1.now R1⟩
    | _ => exact h1.elim
  | _ => exact h1.elim
/-! and, or, not as values that are truths -/
theorem se_one {op : BoolOp} {t : DE} (h : SE X fa W a t) : SE X fa W (.BoolOp op [a] pos) t := pe_one h
def eAndD (a : DE) (b : DE) : DE := fun ρ G => (a ρ G).bind fun d G => match d with | .p (.bool true) => b ρ G | .p (.bool false) => .ok (.p (.bool false)) G | _ => .stuck
def eOrD (a : DE) (b : DE) : DE := fun ρ G => (a ρ G).bind fun d G => match d with | .p (.bool false) => b ρ G | .p (.bool true) => .ok (.p (.bool true)) G | _ => .stuck
def eNotD (a : DE) : DE := fun ρ G => (a ρ G).bind fun d G => match d with | .p (.bool b) => .ok (.p (.bool !b)) G | _ => .stuck
theorem se_and (ha : SE X fa W a ma) (hb : SE X fa W (.BoolOp .And (b :: rest) pos) mb) : SE X fa W (.BoolOp .And (a :: b :: rest) pos) (eAndD ma mb) := by
  refine wkE (pe_and ha hb) fun σ H Q ⟨ρ, θ, G, R, e, h⟩ => ?_
  refine runE R e h fun d G1 θ1 H1 v st1 R1 e1 rv h1 => ?_
  cases rv with
  | p r =>
    cases r with
    | bl k =>
      refine ⟨k, rfl, ?_⟩
      cases k with
      | true => exact ⟨ρ, θ1, G1, R1, e1, h1⟩
      | false => exact h1.now R1 _ (.p (.bl false))
    | _ => exact h1.elim
  | _ => exact h1.elim
theorem se_or (ha : SE X fa W a ma) (hb : SE X fa W (.BoolOp .Or (b :: rest) pos) mb) : SE X fa W (.BoolOp .Or (a :: b :: rest) pos) (eOrD ma mb) := by
  refine wkE (pe_or ha hb) fun σ H Q ⟨ρ, θ, G, R, e, h⟩ => ?_
  refine runE R e h fun d G1 θ1 H1 v st1 R1 e1 rv h1 => ?_
  cases rv with
  | p r =>
    cases r with
    | bl k =>
      refine ⟨k, rfl, ?_⟩
      cases k with
      | false => exact ⟨ρ, θ1, G1, R1, e1, h1⟩
      | true => exact h1.now R1 _ (.p (.bl true))
    | _ => exact h1.elim
  | _ => exact h1.elim
theorem se_not (ha : SE X fa W a ma) : SE X fa W (.UnaryOp .Not a pos) (eNotD ma) := by
  refine wkE (pe_not ha) fun σ H Q ⟨ρ, θ, G, R, e, h⟩ => ?_
  refine runE R e h fun d G1 θ1 H1 v st1 R1 e1 rv h1 => ?_
  cases rv with
  | p r =>
    cases r with
    | bl k => exact ⟨k, rfl, h1.now R1 _ (.p (.bl _))⟩
    | _ => exact h1.elim
  | _ => exact h1.elim
def eIfD (t : DT) (a b : DE) : DE := fun ρ G => (t ρ G).bind fun k G => if k then a ρ G else b ρ G
theorem se_if (hc : ST X fa W c ta) (ha : SE X fa W a ma) (hb : SE X fa W b mb) : SE X fa W (.IfExp c a b pos) (eIfD ta ma mb) := by
  refine wkE (pe_ifExp hc ha hb) fun σ H Q ⟨ρ, θ, G, R, e, h⟩ => ?_
  refine runT R e h fun k G1 θ1 H1 st1 R1 e1 h1 => ?_
  cases k with
  | true => exact ⟨ρ, θ1, G1, R1, e1, h1⟩
  | false => exact ⟨ρ, θ1, G1, R1, e1, h1⟩

/-! ### argument lists -/
def aNil : DA := fun _ G => .ok [] G
def aCons (a : DE) (r : DA) : DA := fun ρ G => (a ρ G).bind fun d G => (r ρ G).bind fun ds G => .ok (d :: ds) G
variable {es : List Expr} {ms : DA}
theorem sa_nil : SA X fa W [] aNil := wkA pa_nil fun σ H Q ⟨ρ, θ, G, R, e, h⟩ => h.now R [] .nil
theorem sa_cons (ha : SE X fa W a ma) (hr : SA X fa W es ms) (hs : starEach (a :: es) X.env = (false, eval a X.env) :: starEach es X.env := by rfl) : SA X fa W (a :: es) (aCons ma ms) := by
  refine wkA (pa_cons ha hr hs) fun σ H Q ⟨ρ, θ, G, R, e, h⟩ => ?_
  refine runE R e h fun d G1 θ1 H1 v st1 R1 e1 rv h1 => ?_
  refine runA R1 e1 h1 fun ds G2 θ2 H2 vs st2 R2 e2 rvs h2 => ?_
  exact h2.now R2 (v :: vs) (.cons (rv.step R1 st2) rvs)
end
end Ev
set_option Elab.async false
set_option linter.all false
set_option maxRecDepth 100000
/-! Ev3: targets, statements, loops, comprehensions. -/
namespace Ev
open PySem PySem.Spec PyProof.Rows L2

/-! ### targets -/
abbrev MG := D → Rho → GH → Option (Rho × GH)
abbrev MGs := List D → Rho → GH → Option (Rho × GH)
def SameBut (ws : List Nat) (σ σ' : L2.St) : Prop := σ'.length = σ.length ∧ ∀ j, j ∉ ws → σ'[j]? = σ[j]?
theorem SameBut.refl {ws : List Nat} {σ : L2.St} : SameBut ws σ σ := ⟨rfl, fun _ _ => rfl⟩
theorem SameBut.trans {ws ws' : List Nat} {σ σ' σ₂ : L2.St} (a : SameBut ws σ σ') (b : SameBut ws' σ' σ₂) : SameBut (ws ++ ws') σ σ₂ :=
  ⟨b.1.trans a.1, fun j hj => (b.2 j fun m => hj (List.mem_append_right _ m)).trans (a.2 j fun m => hj (List.mem_append_left _ m))⟩
theorem SameBut.set {σ : L2.St} {i : Nat} {v : Option V} : SameBut [i] σ (σ.set i v) := ⟨by simp, fun j hj => List.getElem?_set_ne (by simpa using fun e : i = j => hj (by simp [e]))⟩
theorem SameBut.wipe {ws : List Nat} {σ σ' : L2.St} (h : SameBut ws σ σ') : wipe σ' ws = wipe σ ws := by
  refine List.ext_getElem? fun j => ?_
  by_cases hj : j ∈ ws
  · have e : ∀ (τ : L2.St), (∀ v, (L2.wipe τ ws)[j]? ≠ some (some v)) := fun τ v q => (wipe_some q).2 hj
    have l : (L2.wipe σ' ws).length = (L2.wipe σ ws).length := by rw [wipe_length, wipe_length, h.1]
    by_cases hl : j < (L2.wipe σ' ws).length
    · have hl2 : j < (L2.wipe σ ws).length := by omega
      rw [List.getElem?_eq_getElem hl, List.getElem?_eq_getElem hl2]
      cases q1 : (L2.wipe σ' ws)[j] with
      | some v => exact absurd (by rw [List.getElem?_eq_getElem hl, q1]) (e σ' v)
      | none =>
        cases q2 : (L2.wipe σ ws)[j] with
        | some v => exact absurd (by rw [List.getElem?_eq_getElem hl2, q2]) (e σ v)
        | none => rfl
    · rw [List.getElem?_eq_none (by omega), List.getElem?_eq_none (by omega)]
  · rw [wipe_out hj, wipe_out hj, h.2 j hj]
def PostR (C : Cf) (θ : List Addr) (H : Hp) (ws : List Nat) (σ : L2.St) (r : Option (Rho × GH)) (Q : L2.St → Hp → Prop) : Prop :=
  match r with
  | some (ρ', G') => ∀ θ' H' σ', Step θ H θ' H' → Rel C θ' H' G' → REnv C θ' H' ρ' σ' → SameBut ws σ σ' → Q σ' H'
  | none => False
def canG (C : Cf) (ws : List Nat) (m : MG) : TG := fun v σ H Q => ∃ d ρ θ G, Rel C θ H G ∧ REnv C θ H ρ σ ∧ RV C θ H d v ∧ PostR C θ H ws σ (m d ρ G) Q
def canGs (C : Cf) (ws : List Nat) (m : MGs) : TGs := fun vs σ H Q => ∃ ds ρ θ G, Rel C θ H G ∧ REnv C θ H ρ σ ∧ RVL C θ H ds vs ∧ PostR C θ H ws σ (m ds ρ G) Q
abbrev SG (X : Cx) (fa : Nat → Option Addr) (ws : List Nat) (e : Expr) (m : MG) : Prop := PG X e (canG (cf X fa) ws m)
abbrev SGs (X : Cx) (fa : Nat → Option Addr) (ws : List Nat) (es : List Expr) (m : MGs) : Prop := PGs X es (canGs (cf X fa) ws m)
section
variable {X : Cx}
theorem wkG {e : Expr} {t t' : TG} (h : PG X e t) (k : ∀ v σ H Q, t' v σ H Q → t v σ H Q) : PG X e t' := ⟨fun pins s σ H v u Q I r q => h.run pins s σ H v u Q I r (k v σ H Q q)⟩
theorem wkGs {es : List Expr} {t t' : TGs} (h : PGs X es t) (k : ∀ v σ H Q, t' v σ H Q → t v σ H Q) : PGs X es t' := ⟨fun pins s σ H v u Q I r q => h.run pins s σ H v u Q I r (k v σ H Q q)⟩
theorem wkI {tg e : Expr} {t t' : TI} (h : PI X tg e t) (k : ∀ σ H R, t' σ H R → t σ H R) : PI X tg e t' := ⟨fun pins s σ H R I q => h.run pins s σ H R I (k σ H R q)⟩
theorem wkTs {es : List Expr} {t t' : TT} (h : PTs X es t) (k : ∀ σ H Q, t' σ H Q → t σ H Q) : PTs X es t' := ⟨fun pins s σ H Q I q => h.run pins s σ H Q I (k σ H Q q)⟩
end
theorem PostR.from {C : Cf} {θ θ' : List Addr} {H H' : Hp} {ws : List Nat} {σ : L2.St} {r : Option (Rho × GH)} {Q : L2.St → Hp → Prop} (st : Step θ H θ' H') (h : PostR C θ H ws σ r Q) : PostR C θ' H' ws σ r Q := by
  cases r with
  | none => exact h
  | some p => exact fun θ₂ H₂ σ s2 R e => h θ₂ H₂ σ (st.trans s2) R e
theorem PostR.shift {C : Cf} {θ θ' : List Addr} {H H' : Hp} {ws ws' : List Nat} {σ σ' : L2.St} {r : Option (Rho × GH)} {Q : L2.St → Hp → Prop} (st : Step θ H θ' H') (sb : SameBut ws σ σ') (h : PostR C θ H (ws ++ ws') σ r Q) : PostR C θ' H' ws' σ' r Q := by
  cases r with
  | none => exact h
  | some p => exact fun θ₂ H₂ σ₂ s2 R e sb2 => h θ₂ H₂ σ₂ (st.trans s2) R e (sb.trans sb2)
def gNm (i : Nat) : MG := fun d ρ G => some (ρ.set i (some d), G)
def gsNil : MGs := fun ds ρ G => match ds with | [] => some (ρ, G) | _ :: _ => none
def gsCons (g : MG) (r : MGs) : MGs := fun ds ρ G => match ds with | d :: ds => (match g d ρ G with | some (ρ, G) => r ds ρ G | none => none) | [] => none
def itemsOf : D → Option (List D)
  | .p (.tuple ds) => some (ds.map .p)
  | .mt ds => some ds
  | _ => none
def gTp (n : Nat) (r : MGs) : MG := fun d ρ G => match itemsOf d with | some ds => if ds.length = n then r ds ρ G else none | none => none
theorem items_rel {C : Cf} {θ : List Addr} {H : Hp} {d : D} {ds : List D} {v : V} (h : itemsOf d = some ds) (r : RV C θ H d v) : ∃ a xs, v = .ref a ∧ SqT C.K H a xs ∧ RVL C θ H ds xs := by
  cases r with
  | p r =>
    cases r with
    | tup h1 h2 => cases h; exact ⟨_, _, rfl, h1, h2.rvl⟩
    | _ => cases h
  | mt h1 h2 => cases h; exact ⟨_, _, rfl, h1, h2⟩
  | _ => cases h
section
variable {X : Cx} {fa : Nat → Option Addr} {W : WX} {pos : Pos}
theorem sg_name {i : Nat} {x : Str} (hN : X.N.Nodup) (hi : X.N[i]? = some x) (hx : Loc X.env.scope x) (hf : X.fn x = true ∨ X.env.scope.names.lookup x = some .local := by first | exact .inl rfl | exact .inr rfl | assumption) : SG X fa [i] (.Name x pos) (gNm i) := by
  refine wkG (pg_name (i := i) hN hi hx hf) fun v σ H Q ⟨d, ρ, θ, G, R, e, r, h⟩ => ?_
  exact h θ H _ Step.refl R (e.set r) .set
theorem sgs_nil : SGs X fa [] [] gsNil := by
  refine wkGs pgs_nil fun vs σ H Q ⟨ds, ρ, θ, G, R, e, r, h⟩ => ?_
  cases r with
  | nil => exact ⟨rfl, h θ H σ Step.refl R e .refl⟩
  | cons _ _ => exact h.elim
theorem sgs_cons {e : Expr} {es : List Expr} {g : MG} {r : MGs} {ws ws' : List Nat} (h1 : SG X fa ws e g) (h2 : SGs X fa ws' es r)
    (hs : (assignEach (e :: es) X.env).map (·.2) = assign e X.env :: (assignEach es X.env).map (·.2) := by rfl) : SGs X fa (ws ++ ws') (e :: es) (gsCons g r) := by
  refine wkGs (pgs_cons h1 h2 hs) fun vs σ H Q ⟨ds, ρ, θ, G, R, e, r, h⟩ => ?_
  cases r with
  | nil => exact h.elim
  | @cons d ds v vs rv rvs =>
    refine ⟨v, vs, rfl, d, ρ, θ, G, R, e, rv, ?_⟩
    show PostR _ θ H ws σ (g d ρ G) _
    have h' : PostR (cf X fa) θ H (ws ++ ws') σ (match g d ρ G with | some (ρ, G) => _ | none => none) Q := h
    cases q : g d ρ G with
    | none => rw [q] at h'; exact h'.elim
    | some p =>
      rw [q] at h'
      exact fun θ' H' σ' st R' e' sb => ⟨ds, p.1, θ', p.2, R', e', rvs.step R st, PostR.shift st sb h'⟩
theorem sg_tup {es : List Expr} {k : Nat} {r : MGs} {n : Nat} {ws : List Nat} (hc : X.calm = true) (h : SGs X fa ws es r)
    (hn : (assignEach es X.env).length = n := by rfl) (hst : (assignEach es X.env).findIdx? (·.1) = none := by rfl) : SG X fa ws (.Tuple es k pos) (gTp n r) := by
  refine wkG (pg_tup (n := n) hc h hn hst) fun v σ H Q ⟨d, ρ, θ, G, R, e, r, h⟩ => ?_
  unfold gTp at h
  cases q : itemsOf d with
  | none => simp only [q] at h; exact h.elim
  | some ds =>
    simp only [q] at h
    obtain ⟨a, xs, ev, hs, rl⟩ := items_rel q r
    by_cases hl : ds.length = n
    · rw [if_pos hl] at h
      exact ⟨a, xs, ev, hs, rl.length.symm.trans hl, ds, ρ, θ, G, R, e, rl, h⟩
    · rw [if_neg hl] at h; exact h.elim

/-! ### statements -/
def sPass : DS := fun ρ G => .nx ρ G
def sSeq (s t : DS) : DS := fun ρ G => match s ρ G with | .nx ρ G => t ρ G | r => r
def sRet (e : DE) : DS := fun ρ G => (e ρ G).bindS ρ fun d G => .rt d G
def sRetN : DS := fun _ G => .rt (.p .none) G
def sBrk : DS := fun ρ G => .bk ρ G
def sCnt : DS := fun ρ G => .ct ρ G
def sEx (e : DE) : DS := fun ρ G => (e ρ G).bindS ρ fun _ G => .nx ρ G
def sIf (t : DT) (a b : DS) : DS := fun ρ G => (t ρ G).bindS ρ fun k G => if k then a ρ G else b ρ G
def oS (o : Option (Rho × GH)) : SRes := match o with | some (ρ, G) => .nx ρ G | none => .stuck
def sAsg (e : DE) (g : MG) : DS := fun ρ G => (e ρ G).bindS ρ fun d G => oS (g d ρ G)
def sSet (i : Nat) (e : DE) : DS := fun ρ G => (e ρ G).bindS ρ fun d G => .nx (ρ.set i (some d)) G
variable {st : Stmt} {rest : List Stmt} {m m' : DS} {e c : Expr} {me : DE}
theorem ss_nil : SSs X fa W [] sPass := wkSs pss_nil fun D σ H ⟨ρ, θ, G, R, e, h⟩ => h θ H σ Step.refl R e
theorem ss_cons (h1 : SS X fa W st m) (h2 : SSs X fa W rest m') : SSs X fa W (st :: rest) (sSeq m m') := by
  refine wkSs (pss_cons h1 h2) fun D σ H ⟨ρ, θ, G, R, e, h⟩ => ⟨ρ, θ, G, R, e, ?_⟩
  unfold sSeq at h
  cases q : m ρ G with
  | nx ρ' G' =>
    rw [q] at h
    exact fun θ' H' σ' st R' e' => ⟨ρ', θ', G', R', e', PostS.from st h⟩
  | rt d G' => rw [q] at h; exact h
  | bk ρ' G' => rw [q] at h; exact h
  | ct ρ' G' => rw [q] at h; exact h
  | exc c fs ρ' G' => rw [q] at h; exact h
  | stuck => rw [q] at h; exact h
theorem ss_one (h1 : SS X fa W st m) : SSs X fa W [st] m := pss_one h1
theorem ss_pass : SS X fa W (.Pass pos) sPass := wkS ps_pass fun D σ H ⟨ρ, θ, G, R, e, h⟩ => h θ H σ Step.refl R e
theorem ss_brk : SS X fa W (.Break pos) sBrk := wkS ps_break fun D σ H ⟨ρ, θ, G, R, e, h⟩ => h θ H σ Step.refl R e
theorem ss_cnt : SS X fa W (.Continue pos) sCnt := wkS ps_continue fun D σ H ⟨ρ, θ, G, R, e, h⟩ => h θ H σ Step.refl R e
theorem ss_retN : SS X fa W (.Return none pos) sRetN := wkS ps_retN fun D σ H ⟨ρ, θ, G, R, e, h⟩ => h θ H _ Step.refl R (.p .non)
theorem ss_ret (h : SE X fa W e me) : SS X fa W (.Return (some e) pos) (sRet me) := by
  refine wkS (ps_ret h) fun D σ H ⟨ρ, θ, G, R, e, h⟩ => ?_
  exact runSE R e h fun d G1 θ1 H1 v st1 R1 e1 rv h1 => h1 θ1 H1 v Step.refl R1 rv
theorem ss_ex (h : SE X fa W e me) (hs : swapsWith e none pos.line X.env = pure false := by rfl) : SS X fa W (.Expr e pos) (sEx me) := by
  refine wkS (ps_expr h hs) fun D σ H ⟨ρ, θ, G, R, e, h⟩ => ?_
  exact runSE R e h fun d G1 θ1 H1 v st1 R1 e1 rv h1 => h1 θ1 H1 σ Step.refl R1 e1
theorem ss_if {a b : List Stmt} {tc : DT} (hc : ST X fa W c tc) (ha : SSs X fa W a m) (hb : SSs X fa W b m') : SS X fa W (.If c a b pos) (sIf tc m m') := by
  refine wkS (ps_if hc ha hb) fun D σ H ⟨ρ, θ, G, R, e, h⟩ => ?_
  refine runST R e h fun k G1 θ1 H1 st1 R1 e1 h1 => ?_
  cases k with
  | true => exact ⟨ρ, θ1, G1, R1, e1, h1⟩
  | false => exact ⟨ρ, θ1, G1, R1, e1, h1⟩
theorem ss_set {i : Nat} {x : Str} {pos' : Pos} (hN : X.N.Nodup) (hi : X.N[i]? = some x) (hx : Loc X.env.scope x) (h : SE X fa W e me) (hs : swapsWith e (some (.Name x pos')) pos.line X.env = pure false := by rfl) (hf : X.fn x = true ∨ X.env.scope.names.lookup x = some .local := by first | exact .inl rfl | exact .inr rfl | assumption) :
    SS X fa W (.Assign [.Name x pos'] e pos) (sSet i me) := by
  refine wkS (ps_set (i := i) hN hi hx h hs hf) fun D σ H ⟨ρ, θ, G, R, e, h⟩ => ?_
  exact runSE R e h fun d G1 θ1 H1 v st1 R1 e1 rv h1 => h1 θ1 H1 _ Step.refl R1 (e1.set rv)
theorem PostS.oS {C : Cf} {θ : List Addr} {H : Hp} {D : Ends} {ws : List Nat} {σ : L2.St} {o : Option (Rho × GH)} (h : PostS C θ H W D (oS o)) : PostR C θ H ws σ o D.nx := by
  cases o with
  | none => exact h
  | some p => exact fun θ' H' σ' st R e _ => h θ' H' σ' st R e
theorem ss_asg {tg : Expr} {g : MG} {ws : List Nat} (h : SE X fa W e me) (hg : SG X fa ws tg g) (hs : swapsWithSole [tg] e pos.line X.env = pure false := by rfl) (hw : swappedStores [tg] e X.env = pure none := by rfl)
    (h1 : (assignEach [tg] X.env).map (·.2) = [assign tg X.env] := by rfl) : SS X fa W (.Assign [tg] e pos) (sAsg me g) := by
  refine wkS (ps_asg h hg hs hw h1) fun D σ H ⟨ρ, θ, G, R, e, h⟩ => ?_
  exact runSE R e h fun d G1 θ1 H1 v st1 R1 e1 rv h1 => ⟨d, ρ, θ1, G1, R1, e1, rv, h1.oS⟩
/-! a, b = x, y -/
def sPar (i j : Nat) (es : DA) : DS := fun ρ G => (es ρ G).bindS ρ fun ds G => match ds with | [d, d'] => .nx ((ρ.set i (some d)).set j (some d')) G | _ => .stuck
theorem ss_par {i j : Nat} {x y : Str} {a b : Expr} {ma : DA} {px py pt : Pos} {kt k2 : Nat} {pt2 : Pos} (hc : X.calm = true) (hN : X.N.Nodup) (hi : X.N[i]? = some x) (hj : X.N[j]? = some y) (hij : i ≠ j)
    (hx : X.env.scope.names.lookup x = some .local) (hy : X.env.scope.names.lookup y = some .local) (ha : SA X fa W [a, b] ma)
    (hw : swappedStores [.Tuple [.Name x px, .Name y py] kt pt] (.Tuple [a, b] k2 pt2) X.env = pure (some [x, y]) := by rfl)
    (hs : swapsWithSole [.Tuple [.Name x px, .Name y py] kt pt] (.Tuple [a, b] k2 pt2) pos.line X.env = pure false := by rfl) :
    SS X fa W (.Assign [.Tuple [.Name x px, .Name y py] kt pt] (.Tuple [a, b] k2 pt2) pos) (sPar i j ma) := by
  refine wkS (ps_par hc hN hi hj hij hx hy ha hw hs) fun D σ H ⟨ρ, θ, G, R, e, h⟩ => ⟨ρ, θ, G, R, e, (h.bind R e).mono fun ds G' θ' H' st R' p vs rl => ?_⟩
  cases rl with
  | nil => exact p.elim
  | cons r1 rl =>
    cases rl with
    | nil => exact p.elim
    | cons r2 rl =>
      cases rl with
      | nil => exact ⟨_, _, rfl, p θ' H' _ Step.refl R' (((e.step R st).set r1).set r2)⟩
      | cons _ _ => exact p.elim
/-! name op= e -/
def sAug (i : Nat) (f : Op2) (e : DE) : DS := fun ρ G => match ρ[i]? with
  | some (some x) => (e ρ G).bindS ρ fun y G => (f x y G).bindS ρ fun z G => .nx (ρ.set i (some z)) G
  | _ => .stuck
def IpD (C : Cf) (f : Op2) (r : TIp) : Prop := ∀ θ G H d e v w Q (E : XK), Rel C θ H G → RV C θ H d v → RV C θ H e w → PostG C θ H (f d e G) (fun d' _ θ' H' => ∀ u, RV C θ' H' d' u → Q u H') E → r v w H Q
theorem ss_aug {i : Nat} {x : Str} {op : Operator} {ti : TIp} {f : Op2} {pos' : Pos} (hN : X.N.Nodup) (hi : X.N[i]? = some x) (hx : Loc X.env.scope x) (h : SE X fa W e me) (ho : PIp X op ti) (hf : IpD (cf X fa) f ti) (hf' : X.fn x = true ∨ X.env.scope.names.lookup x = some .local := by first | exact .inl rfl | exact .inr rfl | assumption) :
    SS X fa W (.AugAssign (.Name x pos') op e pos) (sAug i f me) := by
  refine wkS (ps_aug (i := i) hN hi hx h ho hf') fun D σ H ⟨ρ, θ, G, R, e, h⟩ => ?_
  unfold sAug at h
  cases q : ρ[i]? with
  | none => simp only [q] at h; exact h.elim
  | some o =>
    cases o with
    | none => simp only [q] at h; exact h.elim
    | some d =>
      simp only [q] at h
      obtain ⟨v, h1, rv⟩ := e.2 i d q
      refine ⟨v, h1, runSE R e h fun y G1 θ1 H1 w st1 R1 e1 rw h1 => ?_⟩
      exact hf θ1 G1 H1 d y v w _ _ R1 (rv.step R st1) rw ((h1.bind R1 e1).mono fun z G2 θ2 H2 st2 R2 p u ru => p θ2 H2 _ Step.refl R2 ((e1.step R1 st2).set ru))
end

/-! ### loops -/
/-- what a loop walks: how many, the item at a turn, whether it is still so -/
structure Src where
  n : Nat
  at_ : GH → Nat → Option D
  fin : GH → Bool
def srcV (ds : List D) : Src := ⟨ds.length, fun _ k => ds[k]?, fun _ => true⟩
def lstAt (G : GH) (i : Nat) : Option (List D) := match G[i]? with | some (.lst ds) => some ds | _ => none
def srcL (i n : Nat) : Src := ⟨n, fun G k => match lstAt G i with | some ds => if ds.length = n then ds[k]? else none | none => none, fun G => match lstAt G i with | some ds => decide (ds.length = n) | none => false⟩
abbrev MI := Rho → GH → Res Src
structure ItOk (C : Cf) (J : It) (src : Src) (θ0 : List Addr) (H0 : Hp) : Prop where
  turn : ∀ (i : Nat) (θ : List Addr) (H : Hp) (G : GH) (d : D), Step θ0 H0 θ H → Rel C θ H G → i < src.n → src.at_ G i = some d → J.go i H ∧ ∀ x H', J.yld i H x H' → Step θ H θ H' ∧ Rel C θ H' G ∧ RV C θ H' d x
  stop : ∀ (θ : List Addr) (H : Hp) (G : GH), Step θ0 H0 θ H → Rel C θ H G → src.fin G = true → J.stop src.n H
def canI (C : Cf) (W : WX) (m : MI) : TI := fun σ H R => ∃ ρ θ G, Rel C θ H G ∧ REnv C θ H ρ σ ∧ PostG C θ H (m ρ G) (fun src _ θ' H' => ∀ J, ItOk C J src θ' H' → R J H') (WE W σ)
abbrev SI (X : Cx) (fa : Nat → Option Addr) (W : WX) (tg e : Expr) (m : MI) : Prop := PI X tg e (canI (cf X fa) W m)
def forLoop (src : Src) (g : MG) (body : DS) : Nat → Nat → DS
  | 0, _ => fun ρ G => if src.fin G = true then .nx ρ G else .stuck
  | r + 1, k => fun ρ G => match src.at_ G k with
    | none => .stuck
    | some d => match g d ρ G with
      | none => .stuck
      | some (ρ, G) => match body ρ G with
        | .nx ρ G => forLoop src g body r (k + 1) ρ G
        | .ct ρ G => forLoop src g body r (k + 1) ρ G
        | .bk ρ G => .nx ρ G
        | r => r
def sFor (it : MI) (g : MG) (body : DS) : DS := fun ρ G => (it ρ G).bindS ρ fun src G => forLoop src g body src.n 0 ρ G
section
variable {X : Cx} {fa : Nat → Option Addr} {W : WX} {pos : Pos}
theorem ss_for {tg iter : Expr} {body : List Stmt} {mi : MI} {g : MG} {ws : List Nat} {mb : DS} (hp : PassesOwn (model X.prog X.w) X.A X.env X.xe) (hc : X.calm = true) (hi : SI X fa W tg iter mi) (hg : SG X fa ws tg g) (hb : SSs X fa W body mb)
    (hs : ∀ x, foldedSetIterable iter X.env x = pure x := by intro _; rfl) : SS X fa W (.For tg iter body [] pos) (sFor mi g mb) := by
  refine wkS (ps_for hp hc hi hg hb hs) fun D σ H ⟨ρ, θ, G, R, e, h⟩ => ⟨ρ, θ, G, R, e, (h.bind R e).mono fun src G1 θ1 H1 st1 R1 h1 J ok => ?_⟩
  refine ⟨fun i m σ' H' => ∃ ρ' θ' G', i + m = src.n ∧ Step θ1 H1 θ' H' ∧ Rel (cf X fa) θ' H' G' ∧ REnv (cf X fa) θ' H' ρ' σ' ∧ PostS (cf X fa) θ' H' W D (forLoop src g mb m i ρ' G'), ⟨src.n, ρ, θ1, G1, by simp, Step.refl, R1, e.step R st1, h1⟩, ?_⟩
  rintro i m σ' H' ⟨ρ', θ', G', hm, st', R', e', h'⟩
  cases m with
  | zero =>
    simp only [forLoop] at h'
    by_cases hf : src.fin G' = true
    · rw [if_pos hf] at h'
      have hi : i = src.n := by omega
      exact .inl ⟨by rw [hi]; exact ok.stop θ' H' G' st' R' hf, h' θ' H' σ' Step.refl R' e'⟩
    · rw [if_neg hf] at h'; exact h'.elim
  | succ m =>
    simp only [forLoop] at h'
    cases qa : src.at_ G' i with
    | none => rw [qa] at h'; exact h'.elim
    | some d =>
      rw [qa] at h'
      obtain ⟨go, yl⟩ := ok.turn i θ' H' G' d st' R' (by omega) qa
      refine .inr ⟨go, fun σ2 H2 => ∃ ρ2 θ2 G2, Step θ1 H1 θ2 H2 ∧ Rel (cf X fa) θ2 H2 G2 ∧ REnv (cf X fa) θ2 H2 ρ2 σ2 ∧ PostS (cf X fa) θ2 H2 W D (forLoop src g mb m (i + 1) ρ2 G2), fun σ2 H2 ⟨ρ2, θ2, G2, s2, R2, e2, p2⟩ => ⟨m, Nat.lt_succ_self m, ρ2, θ2, G2, by omega, s2, R2, e2, p2⟩, fun x H2 y => ?_⟩
      obtain ⟨s2, R2, rv⟩ := yl x H2 y
      refine ⟨d, ρ', θ', G', R2, e'.step R' s2, rv, ?_⟩
      simp only at h'
      cases qg : g d ρ' G' with
      | none => rw [qg] at h'; exact h'.elim
      | some p =>
        obtain ⟨ρ3, G3⟩ := p
        rw [qg] at h'
        intro θ3 H3 σ3 s3 R3 e3 _
        refine ⟨ρ3, θ3, G3, R3, e3, ?_⟩
        have s13 : Step θ1 H1 θ3 H3 := (st'.trans s2).trans s3
        have h3 := PostS.from (s2.trans s3) h'
        simp only at h3
        cases qb : mb ρ3 G3 with
        | nx ρ4 G4 =>
          rw [qb] at h3
          exact fun θ4 H4 σ4 s4 R4 e4 => ⟨ρ4, θ4, G4, s13.trans s4, R4, e4, PostS.from s4 h3⟩
        | ct ρ4 G4 =>
          rw [qb] at h3
          exact fun θ4 H4 σ4 s4 R4 e4 => ⟨ρ4, θ4, G4, s13.trans s4, R4, e4, PostS.from s4 h3⟩
        | bk ρ4 G4 => rw [qb] at h3; exact h3
        | rt d4 G4 => rw [qb] at h3; exact h3
        | exc c fs ρ4 G4 => rw [qb] at h3; exact h3
        | stuck => rw [qb] at h3; exact h3

/-! while, with fuel -/
def whLoop (t : DT) (body : DS) : Nat → DS
  | 0 => fun _ _ => .stuck
  | n + 1 => fun ρ G => (t ρ G).bindS ρ fun k G => if k then (match body ρ G with
      | .nx ρ G => whLoop t body n ρ G
      | .ct ρ G => whLoop t body n ρ G
      | .bk ρ G => .nx ρ G
      | r => r) else .nx ρ G
def sWhile (n : Nat) (t : DT) (body : DS) : DS := whLoop t body n
theorem ss_while {n : Nat} {c : Expr} {body : List Stmt} {tc : DT} {mb : DS} (hp : PassesOwn (model X.prog X.w) X.A X.env X.xe) (hc : ST X fa W c tc) (hb : SSs X fa W body mb) : SS X fa W (.While c body [] pos) (sWhile n tc mb) := by
  refine wkS (ps_while hp hc hb) fun D σ H ⟨ρ, θ, G, R, e, h⟩ => ?_
  refine ⟨fun m σ' H' => ∃ ρ' θ' G', Rel (cf X fa) θ' H' G' ∧ REnv (cf X fa) θ' H' ρ' σ' ∧ PostS (cf X fa) θ' H' W D (whLoop tc mb m ρ' G'), ⟨n, ρ, θ, G, R, e, h⟩, ?_⟩
  rintro m σ' H' ⟨ρ', θ', G', R', e', h'⟩
  cases m with
  | zero => exact h'.elim
  | succ m =>
    refine runST R' e' h' fun k G1 θ1 H1 st1 R1 e1 h1 => ?_
    cases k with
    | false => exact h1 θ1 H1 σ' Step.refl R1 e1
    | true =>
      refine ⟨fun σ2 H2 => ∃ ρ2 θ2 G2, Rel (cf X fa) θ2 H2 G2 ∧ REnv (cf X fa) θ2 H2 ρ2 σ2 ∧ PostS (cf X fa) θ2 H2 W D (whLoop tc mb m ρ2 G2), fun σ2 H2 q => ⟨m, Nat.lt_succ_self m, q⟩, ρ', θ1, G1, R1, e1, ?_⟩
      simp only [if_true] at h1
      cases qb : mb ρ' G1 with
      | nx ρ4 G4 =>
        rw [qb] at h1
        exact fun θ4 H4 σ4 s4 R4 e4 => ⟨ρ4, θ4, G4, R4, e4, PostS.from s4 h1⟩
      | ct ρ4 G4 =>
        rw [qb] at h1
        exact fun θ4 H4 σ4 s4 R4 e4 => ⟨ρ4, θ4, G4, R4, e4, PostS.from s4 h1⟩
      | bk ρ4 G4 => rw [qb] at h1; exact h1
      | rt d4 G4 => rw [qb] at h1; exact h1
      | exc c fs ρ4 G4 => rw [qb] at h1; exact h1
      | stuck => rw [qb] at h1; exact h1
end
end Ev
set_option Elab.async false
set_option linter.all false
set_option maxRecDepth 100000
/-! Ev4: what is walked; comprehensions. -/
namespace Ev
open PySem PySem.Spec PyProof.Rows L2

/-! ### tuples -/
def pures : List D → Option (List PyData)
  | [] => some []
  | .p d :: ds => (pures ds).map (d :: ·)
  | _ :: _ => none
def mkTup (ds : List D) : D := match pures ds with | some ps => .p (.tuple ps) | none => .mt ds
@[simp] theorem pures_map (ps : List PyData) : pures (ps.map .p) = some ps := by
  induction ps with
  | nil => rfl
  | cons d ps ih => simp [pures, ih]
@[simp] theorem mkTup_map (ps : List PyData) : mkTup (ps.map .p) = .p (.tuple ps) := by simp [mkTup]
theorem pures_eq : ∀ {ds : List D} {ps : List PyData}, pures ds = some ps → ds = ps.map .p
  | [], ps, h => by simp [pures] at h; subst h; rfl
  | .p d :: ds, ps, h => by
    simp only [pures, Option.map_eq_some_iff] at h
    obtain ⟨qs, h1, h2⟩ := h
    subst h2
    rw [pures_eq h1]; rfl
  | .ref _ :: _, _, h => by simp [pures] at h
  | .mt _ :: _, _, h => by simp [pures] at h
  | .fn _ :: _, _, h => by simp [pures] at h
  | .ty _ :: _, _, h => by simp [pures] at h
  | .kl _ :: _, _, h => by simp [pures] at h
theorem mkTup_rel {C : Cf} {θ : List Addr} {H : Hp} {a : Addr} {ds : List D} {vs : List V} (h : SqT C.K H a vs) (r : RVL C θ H ds vs) : RV C θ H (mkTup ds) (.ref a) := by
  unfold mkTup
  cases q : pures ds with
  | none => exact .mt h r
  | some ps =>
    have e := pures_eq q
    subst e
    exact .p (.tup h r.rpl)

section
variable {C : Cf} {θ θ0 : List Addr} {H H0 : Hp} {G : GH}
theorem lstAt_rel (R : Rel C θ H G) {i : Nat} {a : Addr} {ds : List D} (hi : θ[i]? = some a) (h : lstAt G i = some ds) : ∃ xs, H a = some (.lst xs) ∧ RVL C θ H ds xs := by
  unfold lstAt at h
  cases q : G[i]? with
  | none => rw [q] at h; cases h
  | some o =>
    rw [q] at h
    cases o with
    | lst es => cases h; exact R.obj i _ a q hi
    | _ => cases h

theorem ItOk.list {i n : Nat} {a : Addr} (hi : θ0[i]? = some a) : ItOk C (Itl C.K a) (srcL i n) θ0 H0 where
  turn := fun k θ H G d st R hk h => by
    have hi' := st.pre1 hi
    have h' : (match lstAt G i with | some ds => if ds.length = n then ds[k]? else none | none => none) = some d := h
    cases q : lstAt G i with
    | none => rw [q] at h'; cases h'
    | some ds =>
      rw [q] at h'
      obtain ⟨xs, e, r⟩ := lstAt_rel R hi' q
      simp only at h'
      split at h'
      · obtain ⟨v, hv, rv⟩ := r.get h'
        refine ⟨⟨xs, v, SqL.of e, hv⟩, fun x H' y => ?_⟩
        obtain ⟨eH, y⟩ := y
        subst eH
        have ev : x = v := Option.some.inj ((y xs (SqL.of e)).symm.trans hv)
        subst ev
        exact ⟨Step.refl, R, rv⟩
      · cases h'
  stop := fun θ H G st R h => by
    have hi' := st.pre1 hi
    have h' : (match lstAt G i with | some ds => decide (ds.length = n) | none => false) = true := h
    cases q : lstAt G i with
    | none => rw [q] at h'; cases h'
    | some ds =>
      rw [q] at h'
      obtain ⟨xs, e, r⟩ := lstAt_rel R hi' q
      have hl : ds.length = n := of_decide_eq_true h'
      exact ⟨xs, SqL.of e, by rw [← r.length, hl]; exact Nat.le_refl _⟩
theorem ItOk.klist {G0 : GH} {ds : List PyData} {a : Addr} {xs : List V} (R0 : Rel C θ0 H0 G0) (hs : SqK C.K H0 a xs) (r : RpL C H0 ds xs) : ItOk C (Itl C.K a) (srcV (ds.map .p)) θ0 H0 where
  turn := fun k θ H G d st R hk h => by
    have r' : RVL C θ H (ds.map .p) xs := (r.step R0 st).rvl
    obtain ⟨v, hv, rv⟩ := r'.get (show (ds.map D.p)[k]? = some d from h)
    have e := (SqK.step R0 st hs).sql
    refine ⟨⟨xs, v, e, hv⟩, fun x H' y => ?_⟩
    obtain ⟨eH, y⟩ := y
    subst eH
    have ev : x = v := Option.some.inj ((y xs e).symm.trans hv)
    subst ev
    exact ⟨Step.refl, R, rv⟩
  stop := fun θ H G st R h => ⟨xs, (SqK.step R0 st hs).sql, by
    show xs.length ≤ (ds.map D.p).length
    rw [List.length_map, r.length]; exact Nat.le_refl _⟩
theorem ItOk.tup {G0 : GH} {ds : List D} {a : Addr} {xs : List V} (R0 : Rel C θ0 H0 G0) (hs : SqT C.K H0 a xs) (r : RVL C θ0 H0 ds xs) : ItOk C (Itt C.K a) (srcV ds) θ0 H0 where
  turn := fun k θ H G d st R hk h => by
    obtain ⟨v, hv, rv⟩ := (r.step R0 st).get (show ds[k]? = some d from h)
    have e := SqT.step R0 st hs
    refine ⟨⟨xs, v, e, hv⟩, fun x H' y => ?_⟩
    obtain ⟨eH, y⟩ := y
    subst eH
    have ev : x = v := Option.some.inj ((y xs e).symm.trans hv)
    subst ev
    exact ⟨Step.refl, R, rv⟩
  stop := fun θ H G st R h => ⟨xs, SqT.step R0 st hs, by
    show xs.length ≤ ds.length
    rw [r.length]; exact Nat.le_refl _⟩
def srcR (lo : Int) (n : Nat) : Src := ⟨n, fun _ k => if k < n then some (.p (.int (lo + k))) else none, fun _ => true⟩
theorem ItOk.range {lo : Int} {n : Nat} : ItOk C (Itr lo n) (srcR lo n) θ0 H0 where
  turn := fun k θ H G d st R hk h => by
    have h' : (if k < n then some (D.p (.int (lo + k))) else none) = some d := h
    have hk' : k < n := hk
    rw [if_pos hk'] at h'
    cases h'
    refine ⟨hk', fun x H' y => ?_⟩
    obtain ⟨eH, ex⟩ := y
    subst eH ex
    exact ⟨Step.refl, R, .p (.int _)⟩
  stop := fun θ H G st R h => Nat.le_refl _
end

/-! ### the sources -/
def srcOf (d : D) (G : GH) : Option Src := match d with
  | .ref i => (lstAt G i).map fun ds => srcL i ds.length
  | .kl ds => some (srcV (ds.map .p))
  | d => (itemsOf d).map srcV
def oM {α : Type} (o : Option α) (G : GH) : Res α := match o with | some a => .ok a G | none => .stuck
def iAny (e : DE) : MI := fun ρ G => (e ρ G).bind fun d G => oM (srcOf d G) G
def ints1 : List D → Option Int
  | [.p (.int j)] => some j
  | _ => none
def ints2 : List D → Option (Int × Int)
  | [.p (.int i), .p (.int j)] => some (i, j)
  | _ => none
@[irreducible] def rgOk (j : Int) : Bool := decide (-4611686018427387904 ≤ j) && decide (j < 4611686018427387904)
def iRg1 (es : DA) : MI := fun ρ G => (es ρ G).bind fun ds G => match ints1 ds with | some j => if rgOk j then .ok (srcR 0 j.toNat) G else .stuck | none => .stuck
def iRg2 (es : DA) : MI := fun ρ G => (es ρ G).bind fun ds G => match ints2 ds with | some (i, j) => if rgOk i && rgOk j then .ok (srcR i (j - i).toNat) G else .stuck | none => .stuck
section
variable {X : Cx} {fa : Nat → Option Addr} {W : WX} {tg : Expr}
def iBoth (K : PySem.W.Frag) (tl : TE) : TI := fun σ H R => tl σ H fun x H1 => ∃ a, x = .ref a ∧ (((∃ xs, SqL K H1 a xs) ∧ R (Itl K a) H1) ∨ ((∃ xs, SqT K H1 a xs) ∧ R (Itt K a) H1))
theorem pi_both {l : Expr} {tl : TE} (hl : PE X l tl) : PI X tg l (iBoth X.K tl) := by
  refine ⟨fun pins s σ H R I h => ?_⟩
  refine thn (hl.run pins s σ H _ I h) fun v s1 ⟨x, H1, I1, r1, q1⟩ => ?_
  obtain ⟨a, e, q⟩ := q1
  subst e
  cases r1
  have fp : ∀ b ∈ [s1.heap.objs.size], FpOk X pins H1 b := fun b hb => by
    have e : b = s1.heap.objs.size := by simpa using hb
    subst e
    exact I1.fpOk (Nat.le_refl _) (I1.hok.fresh (Nat.le_refl _))
  rcases q with ⟨⟨xs, hq⟩, q⟩ | ⟨⟨xs, hq⟩, q⟩
  · obtain ⟨its, rv, p, hz⟩ := I1.list hq
    refine wpAny_pyIter_list p.isList ?_
    exact ⟨s1.heap.objs.size, [s1.heap.objs.size], _, _, H1, rfl, I1.kept (t' := s1.toks) fun b o e => Heap.get?_push_of_some _ e, turn_list a _, ⟨_, Heap.get?_push_size _ rfl, rfl, rfl⟩, fp, q⟩
  · obtain ⟨its, rv, p, hz⟩ := I1.tuple hq
    refine wpAny_pyIter_tuple (show s1.heap.IsTuple a its.toArray from p) ?_
    exact ⟨s1.heap.objs.size, [s1.heap.objs.size], _, _, H1, rfl, I1.kept (t' := s1.toks) fun b o e => Heap.get?_push_of_some _ e, turn_tuple a _, ⟨_, Heap.get?_push_size _ rfl, rfl, rfl⟩, fp, q⟩
theorem si_any {e : Expr} {m : DE} (h : SE X fa W e m) : SI X fa W tg e (iAny m) := by
  refine wkI (pi_both h) fun σ H Q ⟨ρ, θ, G, R, e, h⟩ => ?_
  refine runE R e h fun d G1 θ1 H1 v st1 R1 e1 rv h1 => ?_
  cases q : srcOf d G1 with
  | none => rw [q] at h1; exact h1.elim
  | some src =>
    rw [q] at h1
    have h2 := h1 θ1 H1 Step.refl R1
    cases rv with
    | ref hi =>
      rename_i i a
      have q' : (lstAt G1 i).map (fun ds => srcL i ds.length) = some src := q
      rw [Option.map_eq_some_iff] at q'
      obtain ⟨ds, hd, e⟩ := q'
      subst e
      obtain ⟨xs, ex, rl⟩ := lstAt_rel R1 hi hd
      exact ⟨a, rfl, .inl ⟨⟨xs, SqL.of ex⟩, h2 _ (ItOk.list (C := cf X fa) hi)⟩⟩
    | kl hs r =>
      rename_i a xs ds
      have q' : some (srcV (ds.map .p)) = some src := q
      cases q'
      exact ⟨a, rfl, .inl ⟨⟨xs, hs.sql⟩, h2 _ (ItOk.klist (C := cf X fa) R1 hs r)⟩⟩
    | @p pd v r =>
      have q' : (itemsOf (.p pd)).map srcV = some src := q
      rw [Option.map_eq_some_iff] at q'
      obtain ⟨ds, hd, e⟩ := q'
      subst e
      obtain ⟨a, xs, ev, hs, rl⟩ := items_rel hd (RV.p r)
      exact ⟨a, ev, .inr ⟨⟨xs, hs⟩, h2 _ (ItOk.tup (C := cf X fa) R1 hs rl)⟩⟩
    | mt hs r =>
      rename_i a xs ds
      have q' : some (srcV ds) = some src := q
      cases q'
      exact ⟨a, rfl, .inr ⟨⟨xs, hs⟩, h2 _ (ItOk.tup (C := cf X fa) R1 hs r)⟩⟩
    | fn _ => cases q
    | ty => cases q
theorem rgOk_iff {j : Int} (h : rgOk j = true) : -(2 ^ 62) ≤ j ∧ j < 2 ^ 62 := by
  simp only [rgOk, Bool.and_eq_true, decide_eq_true_eq] at h
  omega
theorem ints1_rel {C : Cf} {θ : List Addr} {H : Hp} {ds : List D} {j : Int} {vs : List V} (h : ints1 ds = some j) (r : RVL C θ H ds vs) : vs = [.int j] := by
  unfold ints1 at h
  split at h
  · cases h
    cases r with
    | cons r1 r2 => cases r2; cases r1 with | p r => cases r; rfl
  · cases h
theorem ints2_rel {C : Cf} {θ : List Addr} {H : Hp} {ds : List D} {i j : Int} {vs : List V} (h : ints2 ds = some (i, j)) (r : RVL C θ H ds vs) : vs = [.int i, .int j] := by
  unfold ints2 at h
  split at h
  · cases h
    cases r with
    | cons r1 r2 => cases r2 with | cons r2 r3 => cases r3; cases r1 with | p r => cases r; cases r2 with | p r => cases r; rfl
  · cases h
theorem si_range1 {a : Expr} {ma : DA} {p pos : Pos} (hg : Gl X "range") (hm : X.mg "range" = none) (ha : SA X fa W [a] ma) (hs : starEach [a] X.env = [(false, eval a X.env)] := by rfl) : SI X fa W tg (.Call (.Name "range" p) [a] [] pos) (iRg1 ma) := by
  refine wkI (pi_range1 hg hm ha hs) fun σ H Q ⟨ρ, θ, G, R, e, h⟩ => ?_
  refine runA R e h fun ds G1 θ1 H1 vs st1 R1 e1 rv h1 => ?_
  cases q : ints1 ds with
  | none => rw [q] at h1; exact h1.elim
  | some j =>
    rw [q] at h1
    simp only at h1
    by_cases hj : rgOk j = true
    · rw [if_pos hj] at h1
      obtain ⟨a1, a2⟩ := rgOk_iff hj
      exact ⟨j, ints1_rel q rv, a1, a2, h1 θ1 H1 Step.refl R1 _ ItOk.range⟩
    · rw [if_neg hj] at h1; exact h1.elim
theorem si_range2 {a b : Expr} {ma : DA} {p pos : Pos} (hg : Gl X "range") (hm : X.mg "range" = none) (ha : SA X fa W [a, b] ma) (hs : starEach [a, b] X.env = [(false, eval a X.env), (false, eval b X.env)] := by rfl) (hs2 : starEach [b] X.env = [(false, eval b X.env)] := by rfl) :
    SI X fa W tg (.Call (.Name "range" p) [a, b] [] pos) (iRg2 ma) := by
  refine wkI (pi_range2 hg hm ha hs hs2) fun σ H Q ⟨ρ, θ, G, R, e, h⟩ => ?_
  refine runA R e h fun ds G1 θ1 H1 vs st1 R1 e1 rv h1 => ?_
  cases q : ints2 ds with
  | none => rw [q] at h1; exact h1.elim
  | some ij =>
    obtain ⟨i, j⟩ := ij
    rw [q] at h1
    simp only at h1
    by_cases hj : (rgOk i && rgOk j) = true
    · rw [if_pos hj] at h1
      rw [Bool.and_eq_true] at hj
      obtain ⟨a1, a2⟩ := rgOk_iff hj.1
      obtain ⟨b1, b2⟩ := rgOk_iff hj.2
      exact ⟨i, j, ints2_rel q rv, ⟨a1, a2, b1, b2⟩, h1 θ1 H1 Step.refl R1 _ ItOk.range⟩
    · rw [if_neg hj] at h1; exact h1.elim
end

/-! ### zip of two lists, or of two tuples; enumerate of a list -/
/-- a pair is made at each turn -/
theorem pair_step {C : Cf} {θ : List Addr} {H : Hp} {G : GH} (R : Rel C θ H G) {T : Addr} (hT : H T = none) {ds : List D} {vs : List V} (r : RVL C θ H ds vs) :
    Step θ H θ (upd H T (.tup vs)) ∧ Rel C θ (upd H T (.tup vs)) G ∧ RV C θ (upd H T (.tup vs)) (mkTup ds) (.ref T) :=
  ⟨Step.newT hT, R.out_upd (R.notin hT) (none_tup hT) (none_frz hT) (none_xd hT), mkTup_rel (SqT.of upd_same) (r.updN hT)⟩
def srcZL (i j n m : Nat) : Src := ⟨min n m, fun G k => match lstAt G i, lstAt G j with
    | some ds, some es => if ds.length = n ∧ es.length = m then (match ds[k]?, es[k]? with | some d, some e => some (mkTup [d, e]) | _, _ => none) else none
    | _, _ => none,
  fun G => match lstAt G i, lstAt G j with | some ds, some es => decide (ds.length = n ∧ es.length = m) | _, _ => false⟩
def srcZT (ds es : List D) : Src := ⟨min ds.length es.length, fun _ k => match ds[k]?, es[k]? with | some d, some e => some (mkTup [d, e]) | _, _ => none, fun _ => true⟩
section
variable {C : Cf} {θ θ0 : List Addr} {H H0 : Hp} {G : GH}
theorem ItOk.zipL {i j n m : Nat} {a b : Addr} (hi : θ0[i]? = some a) (hj : θ0[j]? = some b) : ItOk C (Itz C.K a b) (srcZL i j n m) θ0 H0 where
  turn := fun k θ H G d st R hk h => by
    have hi' := st.pre1 hi
    have hj' := st.pre1 hj
    have h' : (match lstAt G i, lstAt G j with
      | some ds, some es => if ds.length = n ∧ es.length = m then (match ds[k]?, es[k]? with | some d, some e => some (mkTup [d, e]) | _, _ => none) else none
      | _, _ => none) = some d := h
    cases q : lstAt G i with
    | none => rw [q] at h'; cases h'
    | some ds =>
      cases q2 : lstAt G j with
      | none => rw [q, q2] at h'; cases h'
      | some es =>
        rw [q, q2] at h'
        simp only at h'
        split at h'
        · cases p1 : ds[k]? with
          | none => rw [p1] at h'; cases h'
          | some d1 =>
            cases p2 : es[k]? with
            | none => rw [p1, p2] at h'; cases h'
            | some d2 =>
              rw [p1, p2] at h'
              cases h'
              obtain ⟨xs, e, r⟩ := lstAt_rel R hi' q
              obtain ⟨ys, e2, r2⟩ := lstAt_rel R hj' q2
              obtain ⟨v, hv, rv⟩ := r.get p1
              obtain ⟨w, hw, rw'⟩ := r2.get p2
              refine ⟨⟨xs, ys, v, w, SqL.of e, SqL.of e2, hv, hw⟩, fun x H' y => ?_⟩
              obtain ⟨T, x1, x2, ex, hT, eH, f1, f2⟩ := y
              subst ex eH
              have e1 : x1 = v := Option.some.inj ((f1 xs (SqL.of e)).symm.trans hv)
              have e3 : x2 = w := Option.some.inj ((f2 ys (SqL.of e2)).symm.trans hw)
              subst e1 e3
              exact pair_step R hT (.cons rv (.cons rw' .nil))
        · cases h'
  stop := fun θ H G st R h => by
    have hi' := st.pre1 hi
    have hj' := st.pre1 hj
    have h' : (match lstAt G i, lstAt G j with | some ds, some es => decide (ds.length = n ∧ es.length = m) | _, _ => false) = true := h
    cases q : lstAt G i with
    | none => rw [q] at h'; cases h'
    | some ds =>
      cases q2 : lstAt G j with
      | none => rw [q, q2] at h'; cases h'
      | some es =>
        rw [q, q2] at h'
        have hl := of_decide_eq_true h'
        obtain ⟨xs, e, r⟩ := lstAt_rel R hi' q
        obtain ⟨ys, e2, r2⟩ := lstAt_rel R hj' q2
        refine ⟨xs, ys, SqL.of e, SqL.of e2, ?_⟩
        have l1 := r.length
        have l2 := r2.length
        show xs.length ≤ min n m ∨ ys.length ≤ min n m
        omega
theorem ItOk.zipT {G0 : GH} {ds es : List D} {a b : Addr} {xs ys : List V} (R0 : Rel C θ0 H0 G0) (hs : SqT C.K H0 a xs) (r : RVL C θ0 H0 ds xs) (hs2 : SqT C.K H0 b ys) (r2 : RVL C θ0 H0 es ys) : ItOk C (RZ.ItzT C.K a b) (srcZT ds es) θ0 H0 where
  turn := fun k θ H G d st R hk h => by
    have h' : (match ds[k]?, es[k]? with | some d, some e => some (mkTup [d, e]) | _, _ => none) = some d := h
    cases p1 : ds[k]? with
    | none => rw [p1] at h'; cases h'
    | some d1 =>
      cases p2 : es[k]? with
      | none => rw [p1, p2] at h'; cases h'
      | some d2 =>
        rw [p1, p2] at h'
        cases h'
        have e := SqT.step R0 st hs
        have e2 := SqT.step R0 st hs2
        obtain ⟨v, hv, rv⟩ := (r.step R0 st).get p1
        obtain ⟨w, hw, rw'⟩ := (r2.step R0 st).get p2
        refine ⟨⟨xs, ys, v, w, e, e2, hv, hw⟩, fun x H' y => ?_⟩
        obtain ⟨T, x1, x2, ex, hT, eH, f1, f2⟩ := y
        subst ex eH
        have e1 : x1 = v := Option.some.inj ((f1 xs e).symm.trans hv)
        have e3 : x2 = w := Option.some.inj ((f2 ys e2).symm.trans hw)
        subst e1 e3
        exact pair_step R hT (.cons rv (.cons rw' .nil))
  stop := fun θ H G st R h => by
    refine ⟨xs, ys, SqT.step R0 st hs, SqT.step R0 st hs2, ?_⟩
    have l1 := r.length
    have l2 := r2.length
    show xs.length ≤ min ds.length es.length ∨ ys.length ≤ min ds.length es.length
    omega
def srcE (i n : Nat) : Src := ⟨n, fun G k => match lstAt G i with | some ds => if ds.length = n then (ds[k]?).map (fun d => mkTup [.p (.int k), d]) else none | none => none, fun G => match lstAt G i with | some ds => decide (ds.length = n) | none => false⟩
theorem ItOk.enum {i n : Nat} {a : Addr} (hi : θ0[i]? = some a) : ItOk C (Ite C.K a) (srcE i n) θ0 H0 where
  turn := fun k θ H G d st R hk h => by
    have hi' := st.pre1 hi
    have h' : (match lstAt G i with | some ds => if ds.length = n then (ds[k]?).map (fun d => mkTup [.p (.int k), d]) else none | none => none) = some d := h
    cases q : lstAt G i with
    | none => rw [q] at h'; cases h'
    | some ds =>
      rw [q] at h'
      obtain ⟨xs, e, r⟩ := lstAt_rel R hi' q
      simp only at h'
      split at h'
      · rw [Option.map_eq_some_iff] at h'
        obtain ⟨d1, p1, ed⟩ := h'
        subst ed
        obtain ⟨v, hv, rv⟩ := r.get p1
        refine ⟨⟨xs, v, SqL.of e, hv⟩, fun x H' y => ?_⟩
        obtain ⟨T, x1, ex, hT, eH, f1⟩ := y
        subst ex eH
        have e1 : x1 = v := Option.some.inj ((f1 xs (SqL.of e)).symm.trans hv)
        subst e1
        exact pair_step R hT (.cons (.p (.int _)) (.cons rv .nil))
      · cases h'
  stop := fun θ H G st R h => by
    have hi' := st.pre1 hi
    have h' : (match lstAt G i with | some ds => decide (ds.length = n) | none => false) = true := h
    cases q : lstAt G i with
    | none => rw [q] at h'; cases h'
    | some ds =>
      rw [q] at h'
      obtain ⟨xs, e, r⟩ := lstAt_rel R hi' q
      have hl : ds.length = n := of_decide_eq_true h'
      exact ⟨xs, SqL.of e, by rw [← r.length, hl]; exact Nat.le_refl _⟩
end
def zipSrc (d e : D) (G : GH) : Option Src := match d, e with
  | .ref i, .ref j => (match lstAt G i, lstAt G j with | some ds, some es => some (srcZL i j ds.length es.length) | _, _ => none)
  | d, e => match itemsOf d, itemsOf e with | some ds, some es => some (srcZT ds es) | _, _ => none
def iZp (es : DA) : MI := fun ρ G => (es ρ G).bind fun ds G => match ds with | [d, e] => oM (zipSrc d e G) G | _ => .stuck
def iEn (es : DA) : MI := fun ρ G => (es ρ G).bind fun ds G => match ds with | [.ref i] => oM ((lstAt G i).map fun ds => srcE i ds.length) G | _ => .stuck
section
variable {X : Cx} {fa : Nat → Option Addr} {W : WX}
theorem items_ref {i : Nat} : itemsOf (.ref i) = none := rfl
theorem si_zip {e e2 : Expr} {ma : DA} {p pos tpos : Pos} {elts : List Expr} {kk : Nat} (hg : Gl X "zip") (hm : X.mg "zip" = none) (ha : SA X fa W [e, e2] ma)
    (hs : starEach [e, e2] X.env = (false, eval e X.env) :: starEach [e2] X.env := by rfl) (hpl : (backTo pos (starEach [e2] X.env)).any (·.1) = false := by rfl) :
    SI X fa W (.Tuple elts kk tpos) (.Call (.Name "zip" p) [e, e2] [] pos) (iZp ma) := by
  refine wkI (RZ.pi_zipA hg hm ha hs hpl) fun σ H Q ⟨ρ, θ, G, R, e, h⟩ => ?_
  refine runA R e h fun ds G1 θ1 H1 vs st1 R1 e1 rv h1 => ?_
  cases rv with
  | nil => exact h1.elim
  | cons r1 rv =>
    cases rv with
    | nil => exact h1.elim
    | cons r2 rv =>
      cases rv with
      | cons _ _ => exact h1.elim
      | nil =>
        rename_i d1 v1 d2 v2
        have h1' : PostG (cf X fa) θ1 H1 (oM (zipSrc d1 d2 G1) G1) _ _ := h1
        cases q : zipSrc d1 d2 G1 with
        | none => rw [q] at h1'; exact h1'.elim
        | some src =>
          rw [q] at h1'
          have h2 := h1' θ1 H1 Step.refl R1
          unfold zipSrc at q
          split at q
          · rename_i i j
            cases r1 with
            | ref hi =>
              cases r2 with
              | ref hj =>
                rename_i a b
                cases p1 : lstAt G1 i with
                | none => rw [p1] at q; cases q
                | some ds1 =>
                  cases p2 : lstAt G1 j with
                  | none => rw [p1, p2] at q; cases q
                  | some ds2 =>
                    rw [p1, p2] at q
                    cases q
                    obtain ⟨xs, ex, rl⟩ := lstAt_rel R1 hi p1
                    obtain ⟨ys, ey, rl2⟩ := lstAt_rel R1 hj p2
                    exact ⟨a, b, xs, ys, rfl, .inl ⟨SqL.of ex, SqL.of ey, h2 _ (ItOk.zipL (C := cf X fa) hi hj)⟩⟩
          · cases p1 : itemsOf d1 with
            | none => rw [p1] at q; cases q
            | some ds1 =>
              cases p2 : itemsOf d2 with
              | none => rw [p1, p2] at q; cases q
              | some ds2 =>
                rw [p1, p2] at q
                cases q
                obtain ⟨a, xs, ev, hs1, rl⟩ := items_rel p1 r1
                obtain ⟨b, ys, ev2, hs2, rl2⟩ := items_rel p2 r2
                subst ev ev2
                exact ⟨a, b, xs, ys, rfl, .inr ⟨hs1, hs2, h2 _ (ItOk.zipT (C := cf X fa) R1 hs1 rl hs2 rl2)⟩⟩
theorem si_enum {e : Expr} {ma : DA} {p pos tpos : Pos} {elts : List Expr} {kk : Nat} (hg : Gl X "enumerate") (hm : X.mg "enumerate" = none) (ha : SA X fa W [e] ma) (hs : starEach [e] X.env = [(false, eval e X.env)] := by rfl) :
    SI X fa W (.Tuple elts kk tpos) (.Call (.Name "enumerate" p) [e] [] pos) (iEn ma) := by
  refine wkI (pi_enum hg hm ha hs) fun σ H Q ⟨ρ, θ, G, R, e, h⟩ => ?_
  refine runA R e h fun ds G1 θ1 H1 vs st1 R1 e1 rv h1 => ?_
  cases rv with
  | nil => exact h1.elim
  | cons r1 rv =>
    cases rv with
    | cons _ _ => cases r1 <;> exact h1.elim
    | nil =>
      cases r1 with
      | ref hi =>
        rename_i i a
        have h1' : PostG (cf X fa) θ1 H1 (oM ((lstAt G1 i).map fun ds => srcE i ds.length) G1) _ _ := h1
        cases q : lstAt G1 i with
        | none => rw [q] at h1'; exact h1'.elim
        | some ds =>
          rw [q] at h1'
          obtain ⟨xs, ex, rl⟩ := lstAt_rel R1 hi q
          exact ⟨a, xs, rfl, SqL.of ex, h1' θ1 H1 Step.refl R1 _ (ItOk.enum (C := cf X fa) hi)⟩
      | _ => exact h1.elim
end
end Ev
set_option Elab.async false
set_option linter.all false
set_option maxRecDepth 100000
/-! Ev5: list comprehensions. -/
namespace Ev
open PySem PySem.Spec PyProof.Rows L2

/-- within a block nothing may be raised -/
def noExc {α : Type} (r : Res α) : Res α := match r with | .ok a G => .ok a G | _ => .stuck
@[simp] theorem noExc_ok {α : Type} (a : α) (G : GH) : noExc (.ok a G) = .ok a G := rfl
@[simp] theorem noExc_exc {α : Type} (c : Nat) (fs : List (Str × D)) (G : GH) : noExc (.exc c fs G : Res α) = .stuck := rfl
@[simp] theorem noExc_stuck {α : Type} : noExc (.stuck : Res α) = .stuck := rfl
theorem PostG.noExc {C : Cf} {θ : List Addr} {H : Hp} {α β : Type} {r : Res α} {k : α → GH → Res β} {P : β → GH → List Addr → Hp → Prop} {E E' : XK} (h : PostG C θ H ((noExc r).bind k) P E) :
    PostG C θ H r (fun a G1 θ1 H1 => PostG C θ1 H1 (k a G1) P E) E' := by
  cases r with
  | ok a G' => exact fun θ' H' st R => PostG.from st h
  | exc c fs G' => exact h.elim
  | stuck => exact h
def rwipe (ρ : Rho) : List Nat → Rho
  | [] => ρ
  | v :: vs => (rwipe ρ vs).set v none
theorem REnv.none {C : Cf} {θ : List Addr} {H : Hp} {ρ : Rho} {σ : L2.St} {i : Nat} (h : REnv C θ H ρ σ) : REnv C θ H (ρ.set i none) (σ.set i none) := by
  refine ⟨by simpa using h.1, fun j e q => ?_⟩
  by_cases hj : i = j
  · subst hj
    have hl : i < ρ.length := by
      have := (List.getElem?_eq_some_iff.mp q).1
      simpa using this
    rw [List.getElem?_set_self hl] at q
    cases q
  · rw [List.getElem?_set_ne hj] at q
    obtain ⟨u, h1, h2⟩ := h.2 j e q
    exact ⟨u, by rw [List.getElem?_set_ne hj]; exact h1, h2⟩
theorem REnv.wipe {C : Cf} {θ : List Addr} {H : Hp} {ρ : Rho} {σ : L2.St} (h : REnv C θ H ρ σ) : ∀ vs : List Nat, REnv C θ H (rwipe ρ vs) (L2.wipe σ vs)
  | [] => h
  | v :: vs => (REnv.wipe h vs).none
def lcLoop (src : Src) (g : MG) (tt : DT) (te : DE) (ρ : Rho) : Nat → Nat → List D → GH → Res (List D)
  | 0, _, acc, G => if src.fin G = true then .ok acc G else .stuck
  | r + 1, k, acc, G => match src.at_ G k with
    | none => .stuck
    | some d => match g d ρ G with
      | none => .stuck
      | some (ρ2, G) => (noExc (tt ρ2 G)).bind fun b G => if b then (noExc (te ρ2 G)).bind fun y G => lcLoop src g tt te ρ r (k + 1) (acc ++ [y]) G else lcLoop src g tt te ρ r (k + 1) acc G
def eLc (it : MI) (g : MG) (tt : DT) (te : DE) (vs : List Nat) : DE := fun ρ G => (it ρ G).bind fun src G => if src.n ≤ sizeLine then (lcLoop src g tt te (rwipe ρ vs) src.n 0 [] G).bind fun acc G => .ok (.ref G.length) (G ++ [.lst acc]) else .stuck
def tTrue : DT := fun _ G => .ok true G
abbrev WF : WX := fun _ _ _ _ => False
section
variable {X : Cx} {fa : Nat → Option Addr} {W : WX}
abbrev STs (X : Cx) (fa : Nat → Option Addr) (W : WX) (es : List Expr) (m : DT) : Prop := PTs X es (canT (cf X fa) W m)
theorem sts_nil : STs X fa W [] tTrue := wkTs pts_nil fun σ H Q ⟨ρ, θ, G, R, e, h⟩ => h.now R
theorem sts_one {c : Expr} {t : DT} (h : ST X fa W c t) : STs X fa W [c] t := pts_one h
theorem SameBut.mono {ws vs : List Nat} {σ σ' : L2.St} (h : SameBut ws σ σ') (k : ∀ j ∈ ws, j ∈ vs) : SameBut vs σ σ' := ⟨h.1, fun j hj => h.2 j fun m => hj (k j m)⟩
theorem sameBut_wipe {vs : List Nat} {σ : L2.St} : SameBut vs σ (L2.wipe σ vs) := ⟨wipe_length σ vs, fun j hj => wipe_out hj⟩
theorem noExc_inv {C : Cf} {θ : List Addr} {H : Hp} {α β : Type} {r : Res α} {k : α → GH → Res β} {P : β → GH → List Addr → Hp → Prop} {E : XK} (h : PostG C θ H ((noExc r).bind k) P E) : ∃ a G, r = .ok a G ∧ PostG C θ H (k a G) P E := by
  cases r with
  | ok a G' => exact ⟨a, G', rfl, h⟩
  | exc c fs G' => exact h.elim
  | stuck => exact h.elim
theorem lc_read {mi : MI} {g : MG} {tt : DT} {te : DE} {vs : List Nat} {ws : List Nat} {σ : L2.St} {H : Hp} {Q : VK} (hw : ∀ j ∈ ws, j ∈ vs) (C : Cf)
    (h : canE C W (eLc mi g tt te vs) σ H Q) : tLc (canI C W mi) (canG C ws g) (canT C WF tt) (canE C WF te) vs σ H Q := by
  obtain ⟨ρ, θ, G, R, e, h⟩ := h
  refine ⟨ρ, θ, G, R, e, h.bind.mono fun src G1 θ1 H1 st1 R1 h1 J ok => fun D hD => ?_⟩
  have hn : src.n ≤ sizeLine := by
    by_cases hn : src.n ≤ sizeLine
    · exact hn
    · simp only [if_neg hn] at h1; exact h1.elim
  simp only [if_pos hn] at h1
  refine ⟨fun i m H' => ∃ acc θ' G' xs, i + m = src.n ∧ acc.length ≤ i ∧ Step θ1 H1 θ' H' ∧ Rel C θ' H' G' ∧ D ∉ θ' ∧ H' D = some (.lst xs) ∧ RVL C θ' H' acc xs ∧
    PostG C θ1 H1 ((lcLoop src g tt te (rwipe ρ vs) m i acc G').bind fun acc G => .ok (.ref G.length) (G ++ [.lst acc])) (fun d _ θ' H' => ∀ v, RV C θ' H' d v → Q v H') (WE W σ),
    ⟨src.n, [], θ1, G1, [], by simp, Nat.le_refl _, Step.newT hD, R1.out_upd (R1.notin hD) (none_tup hD) (none_frz hD) (none_xd hD), R1.notin hD, upd_same, .nil, h1⟩, ?_⟩
  rintro i m H' ⟨acc, θ', G', xs, hm, ha, st', R', hDn, eD, ra, p⟩
  have e' : REnv C θ' H' (rwipe ρ vs) (L2.wipe σ vs) := ((e.step R st1).wipe vs).step R1 st'
  cases m with
  | zero =>
    simp only [lcLoop] at p
    by_cases hf : src.fin G' = true
    · rw [if_pos hf] at p
      have hi : i = src.n := by omega
      refine .inl ⟨by rw [hi]; exact ok.stop θ' H' G' st' R' hf, ?_⟩
      refine p (θ' ++ [D]) H' (st'.push hD) (R'.push hDn (by rw [eD]; exact tf_lst) ⟨xs, eD, ra.imp (fun _ _ h => h) (fun _ _ h => h) fun _ _ h => pre_app h⟩) (.ref D) (.ref ?_)
      rw [← R'.len, List.getElem?_append_right (Nat.le_refl _), Nat.sub_self]; rfl
    · rw [if_neg hf] at p; exact p.elim
  | succ m =>
    simp only [lcLoop] at p
    cases qa : src.at_ G' i with
    | none => rw [qa] at p; exact p.elim
    | some d =>
      rw [qa] at p
      simp only at p
      obtain ⟨go, yl⟩ := ok.turn i θ' H' G' d st' R' (by omega) qa
      refine .inr ⟨go, fun H2 => ∃ acc θ' G' xs, i + 1 + m = src.n ∧ acc.length ≤ i + 1 ∧ Step θ1 H1 θ' H2 ∧ Rel C θ' H2 G' ∧ D ∉ θ' ∧ H2 D = some (.lst xs) ∧ RVL C θ' H2 acc xs ∧
        PostG C θ1 H1 ((lcLoop src g tt te (rwipe ρ vs) m (i + 1) acc G').bind fun acc G => .ok (.ref G.length) (G ++ [.lst acc])) (fun d _ θ' H' => ∀ v, RV C θ' H' d v → Q v H') (WE W σ), fun H2 q => ⟨m, Nat.lt_succ_self m, q⟩, fun x H2 y => ?_⟩
      obtain ⟨s2, R2, rv⟩ := yl x H2 y
      refine ⟨d, rwipe ρ vs, θ', G', R2, e'.step R' s2, rv, ?_⟩
      cases qg : g d (rwipe ρ vs) G' with
      | none => rw [qg] at p; exact p.elim
      | some pr =>
        obtain ⟨ρ3, G3⟩ := pr
        rw [qg] at p
        simp only at p
        intro θ3 H3 σ3 s3 R3 e3 sb
        have st3 := (st'.trans s2).trans s3
        have hD3 : H3 D = some (.lst xs) := s3.keep D _ (s2.keep D _ eD hDn) hDn
        have nin : ∀ {θ4 : List Addr} {H4 : Hp}, Step θ1 H1 θ4 H4 → Step θ' H' θ4 H4 → D ∉ θ4 := fun {θ4 H4} _ s hm => by
          obtain ⟨more, em, fm⟩ := s.pre
          rw [em] at hm
          rcases List.mem_append.mp hm with z | z
          · exact hDn z
          · rw [fm D z] at eD; cases eD
        refine ⟨((sameBut_wipe.trans sb).mono (fun j hj => (List.mem_append.mp hj).elim id (hw j))).wipe, ρ3, θ3, G3, R3, e3, ?_⟩
        rw [show ∀ (r : Res Bool) (k : Bool → GH → Res (List Ev.D)) (k2 : List Ev.D → GH → Res Ev.D), ((noExc r).bind k).bind k2 = (noExc r).bind (fun b G => (k b G).bind k2) from fun r k k2 => by cases r <;> rfl] at p
        obtain ⟨b, G4, er, p4⟩ := noExc_inv p
        rw [er]
        intro θ4 H4 s4 R4
        have st4 := st3.trans s4
        cases b with
        | false =>
          simp only [Bool.false_eq_true, if_false] at p4 ⊢
          exact ⟨acc, θ4, G4, xs, by omega, by omega, st4, R4, nin st4 ((s2.trans s3).trans s4), s4.keep D _ hD3 (nin st3 (s2.trans s3)), ra.step R' ((s2.trans s3).trans s4), p4⟩
        | true =>
          simp only [if_true] at p4 ⊢
          refine ⟨ρ3, θ4, G4, R4, e3.step R3 s4, ?_⟩
          rw [show ∀ (r : Res Ev.D) (k : Ev.D → GH → Res (List Ev.D)) (k2 : List Ev.D → GH → Res Ev.D), ((noExc r).bind k).bind k2 = (noExc r).bind (fun b G => (k b G).bind k2) from fun r k k2 => by cases r <;> rfl] at p4
          obtain ⟨dy, G5, er5, p5⟩ := noExc_inv p4
          rw [er5]
          intro θ5 H5 s5 R5 v5 rv5
          have sAll := ((s2.trans s3).trans s4).trans s5
          have hD5 : H5 D = some (.lst xs) := s5.keep D _ (s4.keep D _ hD3 (nin st3 (s2.trans s3))) (nin st4 ((s2.trans s3).trans s4))
          have n5 := nin (st4.trans s5) sAll
          have nt : ∀ ys, H5 D ≠ some (.tup ys) := fun ys z => by rw [hD5] at z; cases z
          have nf : ∀ ob u, H5 D ≠ some (.frz ob u) := fun ob u z => by rw [hD5] at z; cases z
          refine ⟨xs, hD5, ?_, acc ++ [dy], θ5, G5, xs ++ [v5], by omega, by simp; omega, (st4.trans s5).more hD, R5.out_upd n5 nt nf (fun vs z => by rw [hD5] at z; cases z), n5, upd_same, ?_, p5⟩
          · have := ra.length
            omega
          · exact ((ra.step R' sAll).append (.cons rv5 .nil)).imp (fun _ _ => SqT.updI nt nf) (fun _ _ => SqK.updI nf) fun _ _ h => h
theorem se_lc {elt tg iter : Expr} {ifs : List Expr} {scope : Scope} {own : List (Str × Nat)} {ws : List Nat} {pos : Pos} {mi : MI} {g : MG} {tt : DT} {te : DE} (hc : X.calm = true) (hN : X.N.Nodup) (hi : SI X fa W tg iter mi) (ok : BlkOk X.N X.env.scope scope own)
    (hw : ∀ j ∈ ws, j ∈ own.map (·.2))
    (hg : ∀ (s : Shared) (H : Hp) (C : Addr) (cl : List (Str × Addr)) (fp : List Addr), SG (X.blk s H scope (compEnvC scope cl C X.env) fp) fa ws tg g) (ht : ∀ (s : Shared) (H : Hp) (C : Addr) (cl : List (Str × Addr)) (fp : List Addr), STs (X.blk s H scope (compEnvC scope cl C X.env) fp) fa WF ifs tt)
    (he : ∀ (s : Shared) (H : Hp) (C : Addr) (cl : List (Str × Addr)) (fp : List Addr), SE (X.blk s H scope (compEnvC scope cl C X.env) fp) fa WF elt te) (hs : ∀ x, foldedSetIterable iter X.env x = pure x := by intro _; rfl) :
    SE X fa W (.ListComp elt [⟨tg, iter, ifs, 0⟩] scope pos) (eLc mi g tt te (own.map (·.2))) :=
  wkE (pe_lc hc hN hi ok hg ht he hs) fun σ H Q h => lc_read hw (cf X fa) h
/-! y = [..] -/
theorem ss_setLc {i : Nat} {y : Str} {py : Pos} {elt tg iter : Expr} {ifs : List Expr} {scope : Scope} {own : List (Str × Nat)} {ws : List Nat} {pos spos : Pos} {mi : MI} {g : MG} {tt : DT} {te : DE} (hc : X.calm = true) (hN : X.N.Nodup) (hy : X.N[i]? = some y) (hyl : X.env.scope.names.lookup y = some .local)
    (hsw : swapsWith (.ListComp elt [⟨tg, iter, ifs, 0⟩] scope pos) (some (.Name y py)) spos.line X.env = pure true) (hi : SI X fa W tg iter mi) (ok : BlkOk X.N X.env.scope scope own)
    (hw : ∀ j ∈ ws, j ∈ own.map (·.2))
    (hg : ∀ (s : Shared) (H : Hp) (C : Addr) (cl : List (Str × Addr)) (fp : List Addr), SG (X.blk s H scope (compEnvC scope cl C X.env) fp) fa ws tg g) (ht : ∀ (s : Shared) (H : Hp) (C : Addr) (cl : List (Str × Addr)) (fp : List Addr), STs (X.blk s H scope (compEnvC scope cl C X.env) fp) fa WF ifs tt)
    (he : ∀ (s : Shared) (H : Hp) (C : Addr) (cl : List (Str × Addr)) (fp : List Addr), SE (X.blk s H scope (compEnvC scope cl C X.env) fp) fa WF elt te) (hs : ∀ x, foldedSetIterable iter X.env x = pure x := by intro _; rfl) :
    SS X fa W (.Assign [.Name y py] (.ListComp elt [⟨tg, iter, ifs, 0⟩] scope pos) spos) (sSet i (eLc mi g tt te (own.map (·.2)))) := by
  refine wkS (ps_setLc (i := i) (wi := canI (cf X fa) W mi) (g := canG (cf X fa) ws g) (tt := canT (cf X fa) WF tt) (te := canE (cf X fa) WF te) hc hN hy hyl hsw hi ok hg ht he hs) fun D σ H ⟨ρ, θ, G, R, e, h⟩ => ?_
  refine lc_read hw (cf X fa) ?_
  exact runSE R e h fun d G1 θ1 H1 v st1 R1 e1 rv h1 => h1 θ1 H1 _ Step.refl R1 (e1.set rv)
end
end Ev
set_option Elab.async false
set_option linter.all false
set_option maxRecDepth 100000
/-! Ev6: calls, on a heap of their own where the arguments are data; defs by their bodies. -/
namespace Ev
open PySem PySem.Spec PyProof.Rows L2

/-! ### numbers of objects moved, numbers below -/
mutual
def shD (n : Nat) : D → D
  | .ref i => .ref (n + i)
  | .mt ds => .mt (shL n ds)
  | .p d => .p d
  | .fn i => .fn i
  | .ty s => .ty s
  | .kl ds => .kl ds
def shL (n : Nat) : List D → List D
  | [] => []
  | d :: ds => shD n d :: shL n ds
end
mutual
def ltD (n : Nat) : D → Bool
  | .ref i => decide (i < n)
  | .mt ds => ltL n ds
  | .p _ => true
  | .fn _ => true
  | .ty _ => true
  | .kl _ => true
def ltL (n : Nat) : List D → Bool
  | [] => true
  | d :: ds => ltD n d && ltL n ds
end
def shF {α : Type} (n : Nat) (fs : List (α × D)) : List (α × D) := fs.map fun p => (p.1, shD n p.2)
def ltF {α : Type} (n : Nat) (fs : List (α × D)) : Bool := fs.all fun p => ltD n p.2
def shO (n : Nat) : O → O
  | .lst ds => .lst (shL n ds)
  | .dict kvs => .dict (shF n kvs)
  | .inst c fs => .inst c (shF n fs)
  | .exc c fs => .exc c (shF n fs)
def ltO (n : Nat) : O → Bool
  | .lst ds => ltL n ds
  | .dict kvs => ltF n kvs
  | .inst _ fs => ltF n fs
  | .exc _ fs => ltF n fs
section
variable {C : Cf} {θ θ' more : List Addr} {H H' : Hp} {G : GH}
theorem get_app {θ m : List Addr} {i : Nat} {a : Addr} (h : m[i]? = some a) : (θ ++ m)[θ.length + i]? = some a := by
  rw [List.getElem?_append_right (Nat.le_add_right _ _), Nat.add_sub_cancel_left]; exact h
mutual
theorem RV.sh : ∀ {d : D} {v : V}, RV C more H d v → RV C (θ ++ more) H (shD θ.length d) v
  | .p _, _, .p h => .p h
  | .ref _, _, .ref h => .ref (get_app h)
  | .mt _, _, .mt h1 h2 => .mt h1 (RVL.sh h2)
  | .fn _, _, .fn h => .fn h
  | .ty _, _, .ty => .ty
  | .kl _, _, .kl h1 h2 => .kl h1 h2
theorem RVL.sh : ∀ {ds : List D} {vs : List V}, RVL C more H ds vs → RVL C (θ ++ more) H (shL θ.length ds) vs
  | [], _, .nil => .nil
  | _ :: _, _, .cons h1 h2 => .cons (RV.sh h1) (RVL.sh h2)
end
theorem get_lt {θ m : List Addr} {i : Nat} {a : Addr} (h : (θ ++ m)[i]? = some a) (hl : i < θ.length) : θ[i]? = some a := by
  rw [List.getElem?_append_left hl] at h; exact h
mutual
theorem RV.lt : ∀ {d : D} {v : V}, RV C (θ ++ more) H d v → ltD θ.length d = true → RV C θ H d v
  | .p _, _, .p h, _ => .p h
  | .ref _, _, .ref h, l => .ref (get_lt h (by simpa [ltD] using l))
  | .mt _, _, .mt h1 h2, l => .mt h1 (RVL.lt h2 (by simpa [ltD] using l))
  | .fn _, _, .fn h, _ => .fn h
  | .ty _, _, .ty, _ => .ty
  | .kl _, _, .kl h1 h2, _ => .kl h1 h2
theorem RVL.lt : ∀ {ds : List D} {vs : List V}, RVL C (θ ++ more) H ds vs → ltL θ.length ds = true → RVL C θ H ds vs
  | [], _, .nil, _ => .nil
  | _ :: _, _, .cons h1 h2, l => by
    simp only [ltL, Bool.and_eq_true] at l
    exact .cons (RV.lt h1 l.1) (RVL.lt h2 l.2)
end
theorem RF.sh {ds : List (Str × D)} {vs : List (Str × V)} (h : RF C more H ds vs) : RF C (θ ++ more) H (shF θ.length ds) vs := by
  induction h with
  | nil => exact .nil
  | cons h _ ih => exact .cons h.sh ih
theorem RKs.sh {ds : List (PyData × D)} {vs : List (Key × V)} (h : RKs C more H ds vs) : RKs C (θ ++ more) H (shF θ.length ds) vs := by
  induction h with
  | nil => exact .nil
  | cons h _ ih => exact .cons h.sh ih
theorem RKt.sh {ds : List (PyData × D)} {vs : List (NestedKey × Addr × V)} (h : RKt C more H ds vs) : RKt C (θ ++ more) H (shF θ.length ds) vs := by
  induction h with
  | nil => exact .nil
  | cons h1 h2 h3 h4 _ ih => exact .cons h1 h2 h3 h4.sh ih
theorem RF.lt {ds : List (Str × D)} {vs : List (Str × V)} (h : RF C (θ ++ more) H ds vs) (l : ltF θ.length ds = true) : RF C θ H ds vs := by
  induction h with
  | nil => exact .nil
  | cons h _ ih =>
    simp only [ltF, List.all_cons, Bool.and_eq_true] at l
    exact .cons (h.lt l.1) (ih (by simpa [ltF] using l.2))
theorem RKs.lt {ds : List (PyData × D)} {vs : List (Key × V)} (h : RKs C (θ ++ more) H ds vs) (l : ltF θ.length ds = true) : RKs C θ H ds vs := by
  induction h with
  | nil => exact .nil
  | cons h _ ih =>
    simp only [ltF, List.all_cons, Bool.and_eq_true] at l
    exact .cons (h.lt l.1) (ih (by simpa [ltF] using l.2))
theorem RKt.lt {ds : List (PyData × D)} {vs : List (NestedKey × Addr × V)} (h : RKt C (θ ++ more) H ds vs) (l : ltF θ.length ds = true) : RKt C θ H ds vs := by
  induction h with
  | nil => exact .nil
  | cons h1 h2 h3 h4 _ ih =>
    simp only [ltF, List.all_cons, Bool.and_eq_true] at l
    exact .cons h1 h2 h3 (h4.lt l.1) (ih (by simpa [ltF] using l.2))
theorem RO.sh {o : O} {a : Addr} (h : RO C more H o a) : RO C (θ ++ more) H (shO θ.length o) a := by
  cases o with
  | lst ds => obtain ⟨xs, e, r⟩ := h; exact ⟨xs, e, r.sh⟩
  | dict kvs =>
    rcases h with ⟨xs, e, r⟩ | ⟨xs, e, z, r⟩
    · exact .inl ⟨xs, e, r.sh⟩
    · exact .inr ⟨xs, e, z, r.sh⟩
  | inst c fs => obtain ⟨A, dx, vs, e1, e2, r⟩ := h; exact ⟨A, dx, vs, e1, e2, r.sh⟩
  | exc c fs =>
    obtain ⟨A, e1, ⟨e, e2⟩ | ⟨d, vs, e2, e3, r⟩⟩ := h
    · subst e; exact ⟨A, e1, .inl ⟨rfl, e2⟩⟩
    · exact ⟨A, e1, .inr ⟨d, vs, e2, e3, r.sh⟩⟩
theorem RO.lt {o : O} {a : Addr} (h : RO C (θ ++ more) H o a) (l : ltO θ.length o = true) : RO C θ H o a := by
  cases o with
  | lst ds => obtain ⟨xs, e, r⟩ := h; exact ⟨xs, e, r.lt l⟩
  | dict kvs =>
    rcases h with ⟨xs, e, r⟩ | ⟨xs, e, z, r⟩
    · exact .inl ⟨xs, e, r.lt l⟩
    · exact .inr ⟨xs, e, z, r.lt l⟩
  | inst c fs => obtain ⟨A, dx, vs, e1, e2, r⟩ := h; exact ⟨A, dx, vs, e1, e2, r.lt l⟩
  | exc c fs =>
    obtain ⟨A, e1, ⟨e, e2⟩ | ⟨d, vs, e2, e3, r⟩⟩ := h
    · exact ⟨A, e1, .inl ⟨e, e2⟩⟩
    · exact ⟨A, e1, .inr ⟨d, vs, e2, e3, r.lt l⟩⟩
theorem Rel.nil : Rel C [] H [] := ⟨rfl, List.nodup_nil, fun _ h => (by cases h), fun i _ _ h => (by simp at h)⟩
/-- what was made on a heap of its own, behind ours -/
theorem Rel.join {L : GH} (R : Rel C θ H G) (st : Step [] H more H') (R' : Rel C more H' L) : Rel C (θ ++ more) H' (G ++ L.map (shO θ.length)) ∧ Step θ H (θ ++ more) H' := by
  obtain ⟨m, em, fm⟩ := st.pre
  have em' : more = m := by simpa using em
  subst em'
  have keep : ∀ a o, H a = some o → H' a = some o := fun a o h => st.keep a o h (by simp)
  refine ⟨⟨by simp [R.len, R'.len], ?_, fun a ha => ?_, fun i o a h1 h2 => ?_⟩, ⟨⟨more, rfl, fm⟩, fun a o h _ => keep a o h, st.there⟩⟩
  · rw [List.nodup_append]
    refine ⟨R.nd, R'.nd, fun a ha b hb e => ?_⟩
    obtain ⟨u, q⟩ := R.there ha
    rw [e, fm b hb] at q; cases q
  · rcases List.mem_append.mp ha with h | h
    · obtain ⟨u, q⟩ := R.there h
      rw [keep a u q, ← q]; exact R.tf a h
    · exact R'.tf a h
  · by_cases hi : i < θ.length
    · rw [List.getElem?_append_left hi] at h2
      rw [List.getElem?_append_left (by rw [← R.len]; exact hi)] at h1
      obtain ⟨u, q⟩ := R.there (List.mem_of_getElem? h2)
      refine RO.imp (fun b xs q => ?_) (fun b xs q => ?_) (fun _ _ h => pre_app h) (by rw [keep a u q, q]) (fun _ _ h => keep _ _ h) (R.obj i o a h1 h2)
      · rcases q with (q | ⟨ob, q⟩) | q
        · exact .inl (.inl (keep _ _ q))
        · exact .inl (.inr ⟨ob, keep _ _ q⟩)
        · exact .inr q
      · rcases q with ⟨ob, q⟩ | q
        · exact .inl ⟨ob, keep _ _ q⟩
        · exact .inr q
    · have e : i = θ.length + (i - θ.length) := by omega
      have e2 : θ.length = G.length := R.len
      rw [List.getElem?_append_right (by omega)] at h2
      rw [List.getElem?_append_right (by omega), List.getElem?_map, ← e2] at h1
      cases q : L[i - θ.length]? with
      | none => rw [q] at h1; cases h1
      | some o' =>
        rw [q] at h1
        cases h1
        exact RO.sh (R'.obj _ o' a q h2)
/-- what was added is dropped -/
theorem Rel.cut {G' : GH} (R : Rel C θ H G) (st : Step θ H θ' H') (R' : Rel C θ' H' G') (l : (G'.take G.length).all (ltO G.length) = true) : Rel C θ H' (G'.take G.length) ∧ Step θ H θ H' := by
  obtain ⟨more, em, fm⟩ := st.pre
  subst em
  have e2 : θ.length = G.length := R.len
  have e3 := R'.len
  rw [List.length_append] at e3
  have nd := R'.nd
  rw [List.nodup_append] at nd
  refine ⟨⟨by rw [List.length_take]; omega, nd.1, fun a ha => R'.tf a (List.mem_append_left _ ha), fun i o a h1 h2 => ?_⟩, ⟨⟨[], by simp, fun _ h => by cases h⟩, st.keep, st.there⟩⟩
  have hi := lt_of_some h2
  rw [List.getElem?_take_of_lt (by omega)] at h1
  refine RO.lt (R'.obj i o a h1 (pre_app h2)) ?_
  rw [e2]
  rw [List.all_eq_true] at l
  exact l o (List.mem_of_getElem? (i := i) (by rw [List.getElem?_take_of_lt (by omega)]; exact h1))
end

/-! ### a call's end, seen from the caller -/
abbrev Fn := List D → GH → Res D
/-- the object with number i is a list of data -/
def lstP (L : GH) (i : Nat) : Option (List PyData) := match L[i]? with | some (.lst es) => pures es | _ => none
def purF : List (Str × D) → Bool
  | [] => true
  | (_, .p _) :: r => purF r
  | _ :: _ => false
/-- run on an empty heap -/
def locP (r : Fn) (ds : List D) (G : GH) : Res D := match r ds [] with
  | .ok (.p d) _ => .ok (.p d) G
  | .ok (.ref i) L => (match lstP L i with | some es => .ok (.ref G.length) (G ++ [.lst (es.map .p)]) | none => .ok (.ref (G.length + i)) (G ++ L.map (shO G.length)))
  | .ok d L => .ok (shD G.length d) (G ++ L.map (shO G.length))
  | .exc c fs _ => if purF fs then .exc c fs G else .stuck
  | .stuck => .stuck
/-- run on the caller's heap -/
def locM (r : Fn) (ds : List D) (G : GH) : Res D := match r ds G with
  | .ok (.p d) G' => if (G'.take G.length).all (ltO G.length) then .ok (.p d) (G'.take G.length) else .ok (.p d) G'
  | r => r
def loc (r : Fn) : Fn := fun ds G => match pures ds with | some _ => locP r ds G | none => locM r ds G
def spI (C : Cf) (n : Nat) (r : Fn) : Sp := fun vs H Q E => vs.length = n ∧ ∃ ds θ G, Rel C θ H G ∧ RVL C θ H ds vs ∧ PostG C θ H (r ds G) (fun d _ θ' H' => ∀ v, RV C θ' H' d v → Q v H') E
section
variable {C : Cf} {θ : List Addr} {H : Hp} {G : GH}
theorem RVL.any {θ' : List Addr} {ps : List PyData} {vs : List V} (r : RVL C θ H (ps.map .p) vs) : RVL C θ' H (ps.map .p) vs := r.rpl.rvl
theorem RX.pure {θ θ' : List Addr} {c : Nat} : ∀ {fs : List (Str × D)} {cls : Value} {dd : Option Addr}, purF fs = true → RX C θ H c fs cls dd → RX C θ' H c fs cls dd := fun {fs cls dd} hp ⟨A, h1, h2, h3⟩ => by
  refine ⟨A, h1, h2, ?_⟩
  rcases h3 with h | ⟨d, vs, e1, e2, h, hno⟩
  · exact .inl h
  · refine .inr ⟨d, vs, e1, e2, fun x u q => ?_, hno⟩
    obtain ⟨v, h4, h5⟩ := h x u q
    refine ⟨v, h4, ?_⟩
    have key : ∀ (l : List (Str × D)), purF l = true → l.lookup x = some u → ∃ pd, u = .p pd := by
      intro l
      induction l with
      | nil => intro _ z; cases z
      | cons y l ih =>
        obtain ⟨n, dv⟩ := y
        intro hp z
        cases dv with
        | p pd =>
          have hp' : purF l = true := hp
          rw [List.lookup] at z
          split at z
          · cases z; exact ⟨_, rfl⟩
          · exact ih hp' z
        | _ => cases hp
    obtain ⟨pd, e⟩ := key fs hp q
    subst e
    cases h5 with | p h => exact .p h
theorem loc_ok {r : Fn} {ds : List D} {vs : List V} {Q : VK} {E : XK} (R : Rel C θ H G) (rv : RVL C θ H ds vs) (h : PostG C θ H (loc r ds G) (fun d _ θ' H' => ∀ v, RV C θ' H' d v → Q v H') E) :
    ∃ θ1 G1, Rel C θ1 H G1 ∧ RVL C θ1 H ds vs ∧ PostG C θ1 H (r ds G1) (fun d _ θ' H' => ∀ v, RV C θ' H' d v → Q v H') E := by
  unfold loc at h
  cases q : pures ds with
  | some ps =>
    rw [q] at h
    have e := pures_eq q
    refine ⟨[], [], Rel.nil, by rw [e] at rv ⊢; exact rv.any, ?_⟩
    unfold locP at h
    have gen : ∀ (d : D) (L : GH), PostG C θ H (.ok (shD G.length d) (G ++ L.map (shO G.length))) (fun d _ θ' H' => ∀ v, RV C θ' H' d v → Q v H') E → PostG C [] H (.ok d L) (fun d _ θ' H' => ∀ v, RV C θ' H' d v → Q v H') E := fun d L h θ' H' st R' v r => by
      obtain ⟨R2, s2⟩ := R.join st R'
      rw [R.len] at R2
      have r2 := RV.sh (θ := θ) r
      rw [R.len] at r2
      exact h _ _ s2 R2 v r2
    cases qr : r ds [] with
    | ok d L =>
      rw [qr] at h
      cases d with
      | p d =>
        intro θ' H' st R' v r
        obtain ⟨m, em, fm⟩ := st.pre
        have s2 : Step θ H θ H' := ⟨⟨[], by simp, fun _ h => by cases h⟩, fun a o h _ => st.keep a o h (by simp), st.there⟩
        have keep : ∀ a o, H a = some o → H' a = some o := fun a o h => st.keep a o h (by simp)
        have R2 : Rel C θ H' G := by
          have := (R.join st R').1
          have e2 : θ.length = G.length := R.len
          refine ⟨R.len, R.nd, fun a ha => ?_, fun i o a h1 h2 => ?_⟩
          · obtain ⟨u, q⟩ := R.there ha
            rw [keep a u q, ← q]; exact R.tf a ha
          · obtain ⟨u, q⟩ := R.there (List.mem_of_getElem? h2)
            refine RO.imp (fun b xs q => ?_) (fun b xs q => ?_) (fun _ _ h => h) (by rw [keep a u q, q]) (fun _ _ h => keep _ _ h) (R.obj i o a h1 h2)
            · rcases q with (q | ⟨ob, q⟩) | q
              · exact .inl (.inl (keep _ _ q))
              · exact .inl (.inr ⟨ob, keep _ _ q⟩)
              · exact .inr q
            · rcases q with ⟨ob, q⟩ | q
              · exact .inl ⟨ob, keep _ _ q⟩
              · exact .inr q
        cases r with
        | p r => exact h θ H' s2 R2 v (.p r)
      | ref i =>
        simp only at h
        cases ql : lstP L i with
        | none => rw [ql] at h; exact gen _ L h
        | some es =>
          rw [ql] at h
          intro θ' H' st R' v r
          -- the list alone is taken over
          cases r with
          | ref hi =>
            rename_i a
            unfold lstP at ql
            cases qL : L[i]? with
            | none => rw [qL] at ql; cases ql
            | some o =>
              rw [qL] at ql
              cases o with
              | lst fs =>
                have ef := pures_eq ql
                subst ef
                obtain ⟨xs, ex, rx⟩ := R'.obj i _ a qL hi
                obtain ⟨m, em, fm⟩ := st.pre
                have em' : θ' = m := by simpa using em
                subst em'
                have hn : H a = none := fm a (List.mem_of_getElem? hi)
                have st1 : Step [] H [a] H' := ⟨⟨[a], rfl, fun b hb => by
                  have : b = a := by simpa using hb
                  rw [this]; exact hn⟩, st.keep, st.there⟩
                have R1 : Rel C [a] H' [.lst (es.map .p)] := by
                  refine ⟨rfl, by simp, fun b hb => ?_, fun j o b h1 h2 => ?_⟩
                  · have : b = a := by simpa using hb
                    rw [this]; exact R'.tf a (List.mem_of_getElem? hi)
                  · have hj : j = 0 := by
                      have := lt_of_some h2
                      simp at this
                      exact this
                    subst hj
                    cases h1; cases h2
                    exact ⟨xs, ex, rx.any⟩
                obtain ⟨R2, s2⟩ := R.join st1 R1
                have e3 : ∀ (l : List PyData) (n : Nat), shL n (l.map .p) = l.map .p := fun l n => by
                  induction l with
                  | nil => rfl
                  | cons x l ih => simp [shL, shD, ih]
                have e4 : [O.lst (es.map .p)].map (shO θ.length) = [O.lst (es.map .p)] := by simp [shO, e3]
                rw [e4] at R2
                refine h _ _ s2 R2 (.ref a) (.ref ?_)
                rw [← R.len, List.getElem?_append_right (Nat.le_refl _), Nat.sub_self]; rfl
              | _ => cases ql
      | mt _ => exact gen _ L h
      | fn _ => exact gen _ L h
      | ty _ => exact gen _ L h
      | kl _ => exact gen _ L h
    | exc c fs L =>
      rw [qr] at h
      simp only at h
      by_cases hp : purF fs = true
      · rw [if_pos hp] at h
        intro θ' H' cls dd st R' x
        have s2 : Step θ H θ H' := ⟨⟨[], by simp, fun _ h => by cases h⟩, fun a o h _ => st.keep a o h (by simp), st.there⟩
        have keep : ∀ a o, H a = some o → H' a = some o := fun a o h => st.keep a o h (by simp)
        have R2 : Rel C θ H' G := by
          refine ⟨R.len, R.nd, fun a ha => ?_, fun i o a h1 h2 => ?_⟩
          · obtain ⟨u, q⟩ := R.there ha
            rw [keep a u q, ← q]; exact R.tf a ha
          · obtain ⟨u, q⟩ := R.there (List.mem_of_getElem? h2)
            refine RO.imp (fun b xs q => ?_) (fun b xs q => ?_) (fun _ _ h => h) (by rw [keep a u q, q]) (fun _ _ h => keep _ _ h) (R.obj i o a h1 h2)
            · rcases q with (q | ⟨ob, q⟩) | q
              · exact .inl (.inl (keep _ _ q))
              · exact .inl (.inr ⟨ob, keep _ _ q⟩)
              · exact .inr q
            · rcases q with ⟨ob, q⟩ | q
              · exact .inl ⟨ob, keep _ _ q⟩
              · exact .inr q
        exact h θ H' cls dd s2 R2 (x.pure hp)
      · rw [if_neg hp] at h; exact h.elim
    | stuck => rw [qr] at h; exact h.elim
  | none =>
    rw [q] at h
    refine ⟨θ, G, R, rv, ?_⟩
    unfold locM at h
    cases qr : r ds G with
    | ok d G' =>
      rw [qr] at h
      cases d with
      | p d =>
        simp only at h
        by_cases hl : (G'.take G.length).all (ltO G.length) = true
        · rw [if_pos hl] at h
          intro θ' H' st R' v r
          obtain ⟨R2, s2⟩ := R.cut st R' hl
          cases r with
          | p r => exact h θ H' s2 R2 v (.p r)
        · rw [if_neg hl] at h; exact h
      | _ => exact h
    | exc c fs G' => rw [qr] at h; exact h
    | stuck => rw [qr] at h; exact h.elim
end

/-! ### defs -/
/-- what a def keeps, called where no object's text is being made -/
structure Ok1 (P : Program) (w : World) (K : PySem.W.Frag) (mg : Str → Option Value) (base : Heap) (k : Nat) (f : Addr) (fd : FuncData) (ps : List Str) (sp : Sp) : Prop where
  many : ∀ vs H Q E, sp vs H Q E → vs.length = ps.length
  go : ∀ (A : Around) (fr : List Env) (s : Shared) (H : Hp) (gv : Args) (us : List Value) (vs : List V) (Q : VK) (E : XK), Room k A → A.guards = some [] → Env0 P w K mg base A fr s H → BindsTo s fd gv (ps.zip us) → Vals vs us → sp vs H Q E →
    codeAny (model P w) A (.call (.ref f) gv) (CR (L2.CX P w) fr P w H s Q E) s
section
variable {P : Program} {w : World} {K : PySem.W.Frag} {mg : Str → Option Value} {base : Heap} {f : Addr}
theorem Ok1.weak {k : Nat} {fd : FuncData} {ps : List Str} {sp sp2 : Sp} (o : Ok1 P w K mg base k f fd ps sp) (h : ∀ vs H Q E, sp2 vs H Q E → sp vs H Q E) : Ok1 P w K mg base k f fd ps sp2 :=
  ⟨fun vs H Q E q => o.many vs H Q E (h _ _ _ _ q), fun A fr s H gv us vs Q E r1 r2 r3 r4 r5 r6 => o.go A fr s H gv us vs Q E r1 r2 r3 r4 r5 (h _ _ _ _ r6)⟩
theorem Ok1.low {j k : Nat} {fd : FuncData} {ps : List Str} {sp : Sp} (o : Ok1 P w K mg base j f fd ps sp) (h : j ≤ k) : Ok1 P w K mg base k f fd ps sp :=
  ⟨o.many, fun A fr s H gv us vs Q E r1 => o.go A fr s H gv us vs Q E (r1.mono h)⟩
theorem Ok1.of {k : Nat} {fd : FuncData} {ps : List Str} {sp : Sp} (o : FnOk P w K mg base (L2.CX P w) k f fd ps sp) : Ok1 P w K mg base k f fd ps sp :=
  ⟨o.len, fun A fr s H gv us vs Q E r1 _ => o.run A fr s H gv us vs Q E r1⟩
/-- a def of the text, by its body -/
theorem ok1_of {x qual : Str} {st : Stmt} {fd : FuncData} {N ps : List Str} {k : Nat} {sp : Sp} (F : L2.Fun K x qual st f fd) (S : FnScope N ps (defScope st)) (hm : ∀ vs H Q E, sp vs H Q E → vs.length = ps.length)
    (hB : ∀ (cdv : Value) (A : Around) (fr : List Env) (s : Shared) (H : Hp) (vs : List V) (Q : VK) (E : XK), Room k (A.deeper (envOfC qual (defScope st) s.heap.objs.size f cdv)) → A.guards = some [] → sp vs H Q E →
      ∃ t, PSs (cxOf (L2.CX P w) P w K mg base N qual (defScope st) f cdv A fr s H E) (defBody st) t ∧ t { nx := fun _ H' => Q .non H', rt := Q } (L2.start N vs) H) : Ok1 P w K mg base (k + 1) f fd ps sp := by
  obtain ⟨oc, od, kV, doc, pm, an, cdv, ct, osl, rfl, lk, hcd⟩ := F.ex
  refine ⟨hm, fun A fr s H gv us vs Q E hr hG e1 b1 rl q0 => ?_⟩
  have KS : K.In s.heap := e1.mod.kin.keeps fun b o e => (e1.bs b o e).1
  have hk2 : ∀ y ∈ ps.zip us, (defScope st).names.lookup y.1 = some .local ∨ ((defScope st).names.lookup y.1 = some .cell ∧ ((cellsFrom (s.heap.objs.size + 1) (defScope st).names []).lookup y.1).isSome = true) := fun ⟨n, v⟩ hy =>
    (S.par n (List.of_mem_zip hy).1).imp id fun q => ⟨q, PySem.W.cellsFrom_some _ _ _ (.inl q)⟩
  refine codeAny_call_function hr.depth (KS _ _ lk) rfl S.co S.gen rfl (PySem.W.codeRec_of KS hcd) (b1 _ _ _ _ (wpAny_newFunctionEnv_cells S.kind hk2 fun env he s1 x => ?_))
  subst he
  refine ⟨(e1.mod.nolimit.keeps fun b o e => (e1.bs b o e).1).keeps x.toInCall.keep, codeAny_func ?_⟩
  obtain ⟨t, ht, hq⟩ := hB cdv A fr s H vs Q E (hr.deeper _) hG q0
  have I0 : Inv (cxOf (L2.CX P w) P w K mg base N qual (defScope st) f cdv A fr s H E) [] (L2.start N vs) H s1 := inv_start S hr.hd e1 (hm _ _ _ _ q0) rl x
  refine wpAny_mono (ht.run [] s1 (L2.start N vs) H _ I0 hq) (fun fl s' z => ?_) fun e s' z => z
  cases fl with
  | ret u => exact (let ⟨v, σ', H', J, rv, q⟩ := z; ⟨v, H', J.os, J.bare, J.base, J.hok, rv, q⟩)
  | next => exact (let ⟨σ', H', J, q⟩ := z; ⟨V.non, H', J.os, J.bare, J.base, J.hok, rfl, q⟩)
  | brk => exact (let ⟨_, _, _, q⟩ := z; False.elim q)
  | cont => exact (let ⟨_, _, _, q⟩ := z; False.elim q)
end
section
variable {X : Cx} {k : Nat} {f : Addr} {fd : FuncData} {ps : List Str} {sp : Sp} {E : L2.St → XK}
/-- the def at f runs -/
theorem ok1_run {pins : List (Addr × Obj)} {σ : L2.St} {H : Hp} {s : Shared} {Q : VK} {us : List Value} {vs : List V} (o : Ok1 X.prog X.w X.K X.mg X.base k f fd ps sp) (hr : Room k X.A) (hG : X.A.guards = some []) (hb : Binds X.K fd ps []) (hx : PassesAt (L2.CX X.prog X.w) X σ (E σ))
    (I : Inv X pins σ H s) (rl : Vals vs us) (h : sp vs H Q (E σ)) : wpAny (model X.prog X.w) X.A (call (.ref f) us) (EP X pins σ Q) X.xe s := by
  have bb := hb s us I.kIn (by rw [List.append_nil, ← rl.length]; exact o.many _ _ _ _ h)
  rw [List.append_nil] at bb
  refine wpAny_call (codeAny_mono (o.go X.A X.stack s H ⟨us, []⟩ us vs Q (E σ) hr hG I.env0 bb rl h) fun r s' z => ?_)
  cases r with
  | error e => exact hx pins H s e s' I z
  | ok fl =>
    cases fl with
    | ret u => exact I.after z
    | _ => exact z.elim
end
structure Good (P : Program) (w : World) (K : PySem.W.Frag) (mg : Str → Option Value) (base : Heap) (fa : Nat → Option Addr) (k : Nat) (i n : Nat) (r : Fn) : Prop where
  ex : ∃ f fd ps, fa i = some f ∧ ps.length = n ∧ Ok1 P w K mg base k f fd ps (spI ⟨P, w, K, fa⟩ n r) ∧ PySem.W.keepIn K (.ref f) = true ∧ Binds K fd ps []
theorem Good.loc {P : Program} {w : World} {K : PySem.W.Frag} {mg : Str → Option Value} {base : Heap} {fa : Nat → Option Addr} {k i n : Nat} {r : Fn} (g : Good P w K mg base fa k i n r) : Good P w K mg base fa k i n (loc r) := by
  obtain ⟨f, fd, ps, h1, h2, h3, h4, h5⟩ := g.ex
  refine ⟨f, fd, ps, h1, h2, h3.weak fun vs H Q E ⟨hl, ds, θ, G, R, rv, h⟩ => ?_, h4, h5⟩
  obtain ⟨θ1, G1, R1, rv1, h⟩ := loc_ok R rv h
  exact ⟨hl, ds, θ1, G1, R1, rv1, h⟩
/-- nothing is known of it -/
theorem Good.none {P : Program} {w : World} {K : PySem.W.Frag} {mg : Str → Option Value} {base : Heap} {fa : Nat → Option Addr} {x qual : Str} {st : Stmt} {f : Addr} {fd : FuncData} {ps : List Str} {i n k : Nat} (F : L2.Fun K x qual st f fd) (hf : fa i = some f) (hb : Binds K fd ps []) (hn : ps.length = n) : Good P w K mg base fa k i n (fun _ _ => .stuck) :=
  ⟨f, fd, ps, hf, hn, ⟨fun vs H Q E ⟨_, ds, θ, G, R, rv, h⟩ => h.elim, fun A fr s H gv us vs Q E _ _ _ _ _ ⟨_, ds, θ, G, R, rv, h⟩ => h.elim⟩, F.kp, hb⟩
/-- a body, started with the arguments -/
def enter (n m : Nat) (body : DS) : Fn := fun ds G => if ds.length = n then (match body (ds.map some ++ List.replicate m none) G with
  | .nx _ G => .ok (.p .none) G
  | .rt d G => .ok d G
  | .exc c fs _ G => .exc c fs G
  | _ => .stuck) else .stuck
theorem start_env {C : Cf} {θ : List Addr} {H : Hp} {N : List Str} {ds : List D} {vs : List V} {m : Nat} (r : RVL C θ H ds vs) (hm : N.length = ds.length + m) : REnv C θ H (ds.map some ++ List.replicate m none) (L2.start N vs) := by
  have hl := r.length
  refine ⟨by unfold L2.start; simp; omega, fun i d q => ?_⟩
  by_cases hi : i < ds.length
  · rw [List.getElem?_append_left (by simpa using hi), List.getElem?_map] at q
    cases e : ds[i]? with
    | none => rw [e] at q; cases q
    | some d' =>
      rw [e] at q
      cases q
      obtain ⟨v, hv, rv⟩ := r.get e
      refine ⟨v, ?_, rv⟩
      unfold L2.start
      rw [List.getElem?_append_left (by simp; omega), List.getElem?_map, hv]; rfl
  · rw [List.getElem?_append_right (by simpa using hi), List.getElem?_replicate] at q
    split at q <;> cases q
section
variable {P : Program} {w : World} {K : PySem.W.Frag} {mg : Str → Option Value} {base : Heap} {fa : Nat → Option Addr}
/-- a body's text keeps what it means -/
abbrev BodyOk (P : Program) (w : World) (K : PySem.W.Frag) (mg : Str → Option Value) (base : Heap) (fa : Nat → Option Addr) (k : Nat) (N : List Str) (qual : Str) (st : Stmt) (f : Addr) (body : DS) : Prop :=
  ∀ (cdv : Value) (A : Around) (fr : List Env) (s : Shared) (H : Hp) (E : XK), Room k (A.deeper (envOfC qual (defScope st) s.heap.objs.size f cdv)) → A.guards = some [] →
      SSs (cxOf (L2.CX P w) P w K mg base N qual (defScope st) f cdv A fr s H E) fa (fun cls d _ H' => E cls d H') (defBody st) body
theorem good_of {x qual : Str} {st : Stmt} {f : Addr} {fd : FuncData} {N ps : List Str} {k i m n : Nat} {body : DS} (F : L2.Fun K x qual st f fd) (S : FnScope N ps (defScope st)) (hf : fa i = some f) (hb : Binds K fd ps []) (hn : ps.length = n) (hm : N.length = n + m)
    (h : BodyOk P w K mg base fa k N qual st f body) : Good P w K mg base fa (k + 1) i n (enter n m body) := by
  subst hn
  refine ⟨f, fd, ps, hf, rfl, ok1_of F S (fun vs H Q E h => h.1) (fun cdv A outer s H vs Q E hr hG hsp => ?_), F.kp, hb⟩
  obtain ⟨hl, ds, θ, G, R, rv, h'⟩ := hsp
  refine ⟨_, h cdv A outer s H E hr hG, ds.map some ++ List.replicate m none, θ, G, R, start_env rv (by rw [hm, rv.length, hl]), ?_⟩
  unfold enter at h'
  rw [if_pos (by rw [rv.length, hl])] at h'
  show PostS ⟨P, w, K, fa⟩ θ H _ _ (body (ds.map some ++ List.replicate m none) G)
  cases q : body (ds.map some ++ List.replicate m none) G with
  | nx ρ' G' => rw [q] at h'; exact fun θ' H' σ' st R' e => h' θ' H' st R' .non (.p .non)
  | rt d G' => rw [q] at h'; exact fun θ' H' v st R' r => h' θ' H' st R' v r
  | exc c fs ρ' G' => rw [q] at h'; exact fun θ' H' σ' cls dd st R' e x => h' θ' H' cls dd st R' x
  | bk _ _ => rw [q] at h'; exact h'.elim
  | ct _ _ => rw [q] at h'; exact h'.elim
  | stuck => rw [q] at h'; exact h'.elim
end
section
variable {X : Cx} {fa : Nat → Option Addr} {W : WX} {k i n : Nat} {r : Fn} {x : Str} {p pos : Pos} {e : Expr} {es : List Expr} {ms : DA}
def eCall (n : Nat) (r : Fn) (as : DA) : DE := fun ρ G => (as ρ G).bind fun ds G => if ds.length = n then r ds G else .stuck
/-- how a call is read: the arguments, then the def's promise -/
theorem call_read {C : Cf} {σ : L2.St} {H : Hp} {Q : VK} (h : canE C W (eCall n r ms) σ H Q) : tCallS (spI C n r) (fun σ cls d H => W cls d σ H) (canA C W ms) σ H Q := by
  obtain ⟨ρ, θ, G, R, e, h⟩ := h
  refine runA R e h fun ds G1 θ1 H1 vs st1 R1 e1 rv h1 => ?_
  by_cases hl : ds.length = n
  · rw [if_pos hl] at h1
    exact ⟨by rw [← rv.length]; exact hl, ds, θ1, G1, R1, rv, h1⟩
  · rw [if_neg hl] at h1; exact h1.elim
theorem se_call (g : Good X.prog X.w X.K X.mg X.base fa k i n r) (hr : Room k X.A) (hG : X.A.guards = some []) (tk : Takes X W) (hg : Gl X x) (hm : ∀ f, fa i = some f → X.mg x = some (.ref f)) (ha : SA X fa W (e :: es) ms) (hdb : (x == ("__debug__" : Str)) = false := by decide)
    (he : starEach (e :: es) X.env = (false, eval e X.env) :: starEach es X.env := by rfl) (hpl : (backTo pos (starEach es X.env)).any (·.1) = false := by rfl) : SE X fa W (.Call (.Name x p) (e :: es) [] pos) (eCall n r ms) := by
  obtain ⟨f, fd, ps, h1, h2, h3, h4, h5⟩ := g.ex
  refine wkE (t := tCallS _ _ _) ⟨fun pins s σ H Q I h => wpAny_Call_Name_kw (ld_glob I hg (hm f h1) ?_ hdb)⟩ fun σ H Q h => call_read h
  exact PySem.W.callWith_K (h₀ := X.base) I.ok.mod.kin h4 (thn (ha.run pos pins s σ H _ I h) fun us s1 ⟨vs, H1, I1, rl, q⟩ => ⟨I1.kIn, ok1_run (E := WE W) h3 hr hG h5 (passAt tk σ) I1 rl q⟩) he hpl
theorem se_call0 (g : Good X.prog X.w X.K X.mg X.base fa k i 0 r) (hr : Room k X.A) (hG : X.A.guards = some []) (tk : Takes X W) (hg : Gl X x) (hm : ∀ f, fa i = some f → X.mg x = some (.ref f)) (hdb : (x == ("__debug__" : Str)) = false := by decide) : SE X fa W (.Call (.Name x p) [] [] pos) (fun ρ G => r [] G) := by
  obtain ⟨f, fd, ps, h1, h2, h3, h4, h5⟩ := g.ex
  refine wkE (t := fun σ H Q => spI (cf X fa) 0 r [] H Q (WE W σ)) ⟨fun pins s σ H Q I h => wpAny_Call_Name_kw (ld_glob I hg (hm f h1) (PySem.W.callWith_K0 I.kIn h4 (ok1_run (E := WE W) (us := []) h3 hr hG h5 (passAt tk σ) I .nil h)) hdb)⟩ fun σ H Q ⟨ρ, θ, G, R, e, h⟩ => ?_
  exact ⟨rfl, [], θ, G, R, .nil, h⟩
end
end Ev
set_option Elab.async false
set_option linter.all false
set_option maxRecDepth 100000
/-! Ev7: operators, comparisons. -/
namespace Ev
open PySem PySem.Spec PyProof.Rows L2

/-! ### values read whole -/
def allO {α : Type} : List (Option α) → Option (List α)
  | [] => some []
  | some a :: r => (allO r).map (a :: ·)
  | none :: _ => none
def snap : Nat → GH → D → Option PyData
  | 0, _, .p d => some d
  | 0, _, .kl ds => some (.list ds)
  | 0, _, _ => none
  | _ + 1, _, .p d => some d
  | _ + 1, _, .kl ds => some (.list ds)
  | n + 1, G, .ref i => (lstAt G i).bind fun ds => (allO (ds.map (snap n G))).map .list
  | n + 1, G, .mt ds => (allO (ds.map (snap n G))).map .tuple
  | _ + 1, _, _ => none
@[simp] theorem snap_p (n : Nat) (G : GH) (d : PyData) : snap n G (.p d) = some d := by cases n <;> rfl
@[simp] theorem allO_pures (n : Nat) (G : GH) (ds : List PyData) : allO ((ds.map D.p).map (snap n G)) = some ds := by
  induction ds with
  | nil => rfl
  | cons d ds ih => simp only [List.map_cons, snap_p, allO, ih]; rfl
theorem lstAt_some {G : GH} {i : Nat} {ds : List D} (h : G[i]? = some (.lst ds)) : lstAt G i = some ds := by unfold lstAt; rw [h]
section
variable {C : Cf} {θ : List Addr} {H : Hp} {G : GH}
mutual
theorem dp_p : ∀ {d : PyData} {v : V}, Rp C H d v → Dp C.K H v d
  | .none, _, .non => .non
  | .bool b, _, .bl _ => .bl b
  | .int i, _, .int _ => .int i
  | .str x, _, .str _ => .str x
  | .tuple _, _, .tup h1 h2 => .tup h1 (dp_pl h2)
theorem dp_pl : ∀ {ds : List PyData} {vs : List V}, RpL C H ds vs → DpAll C.K H vs ds
  | [], _, .nil => .nil
  | _ :: _, _, .cons h1 h2 => .cons (dp_p h1) (dp_pl h2)
end
theorem dp_all {f : D → Option PyData} (hf : ∀ d v e, RV C θ H d v → f d = some e → Dp C.K H v e) : ∀ {ds : List D} {vs : List V} {es : List PyData}, RVL C θ H ds vs → allO (ds.map f) = some es → DpAll C.K H vs es
  | [], _, es, .nil, h => by cases h; exact .nil
  | d :: ds, _, es, .cons r1 r2, h => by
    rw [List.map_cons] at h
    cases q : f d with
    | none => rw [q] at h; cases h
    | some e =>
      rw [q] at h
      simp only [allO, Option.map_eq_some_iff] at h
      obtain ⟨es', h1, h2⟩ := h
      subst h2
      exact .cons (hf _ _ _ r1 q) (dp_all hf r2 h1)
theorem dp_of (R : Rel C θ H G) : ∀ (n : Nat) (d : D) (v : V) (e : PyData), RV C θ H d v → snap n G d = some e → Dp C.K H v e := by
  intro n
  induction n with
  | zero =>
    intro d v e r h
    cases r with
    | p r => cases h; exact dp_p r
    | kl hs r => cases h; exact .lst hs.sql (dp_pl r)
    | _ => cases h
  | succ n ih =>
    intro d v e r h
    cases r with
    | p r => rw [snap_p] at h; cases h; exact dp_p r
    | kl hs r => cases h; exact .lst hs.sql (dp_pl r)
    | @ref i a hi =>
      have h' : ((lstAt G i).bind fun ds => (allO (ds.map (snap n G))).map PyData.list) = some e := h
      cases q : lstAt G i with
      | none => rw [q] at h'; cases h'
      | some ds =>
        rw [q] at h'
        simp only [Option.bind_some, Option.map_eq_some_iff] at h'
        obtain ⟨es, h1, h2⟩ := h'
        subst h2
        obtain ⟨xs, ex, rl⟩ := lstAt_rel R hi q
        exact .lst (SqL.of ex) (dp_all (fun d v e r h => ih d v e r h) rl h1)
    | @mt a xs ds hs rl =>
      have h' : (allO (ds.map (snap n G))).map PyData.tuple = some e := h
      simp only [Option.map_eq_some_iff] at h'
      obtain ⟨es, h1, h2⟩ := h'
      subst h2
      exact .tup hs (dp_all (fun d v e r h => ih d v e r h) rl h1)
    | _ => cases h
/-! ### the ends of operators -/
theorem same_val {d : D} {v : V} {Q : VK} {E : XK} (R : Rel C θ H G) (r : RV C θ H d v) (h : PostG C θ H (.ok d G) (fun d' _ θ' H' => ∀ u, RV C θ' H' d' u → Q u H') E) : Q v H := h θ H Step.refl R v r
theorem new_lst {ds : List D} {xs : List V} {Q : VK} {E : XK} {p : Addr} (R : Rel C θ H G) (r : RVL C θ H ds xs) (hp : H p = none) (h : PostG C θ H (.ok (.ref G.length) (G ++ [.lst ds])) (fun d' _ θ' H' => ∀ u, RV C θ' H' d' u → Q u H') E) : Q (.ref p) (upd H p (.lst xs)) := by
  obtain ⟨R2, st⟩ := R.alloc (o := .lst ds) (u := .lst xs) hp tf_lst ⟨xs, upd_same, (r.updN hp).imp (fun _ _ h => h) (fun _ _ h => h) fun _ _ h => pre_app h⟩
  refine h _ _ st R2 (.ref p) (.ref ?_)
  rw [← R.len, List.getElem?_append_right (Nat.le_refl _), Nat.sub_self]; rfl
theorem new_tup {ds : List D} {xs : List V} {Q : VK} {E : XK} {p : Addr} (R : Rel C θ H G) (r : RVL C θ H ds xs) (hp : H p = none) (h : PostG C θ H (.ok (mkTup ds) G) (fun d' _ θ' H' => ∀ u, RV C θ' H' d' u → Q u H') E) : Q (.ref p) (upd H p (.tup xs)) := by
  obtain ⟨st, R2, rv⟩ := pair_step R hp r
  exact h _ _ st R2 (.ref p) rv
theorem items_mk {d : D} {ds : List D} {a : Addr} {xs : List V} (h : itemsOf d = some ds) (hs : SqT C.K H a xs) (r : RVL C θ H ds xs) : RV C θ H d (.ref a) := by
  cases d with
  | p d =>
    cases d with
    | tuple es => cases h; exact .p (.tup hs r.rpl)
    | _ => cases h
  | mt es => cases h; exact .mt hs r
  | _ => cases h
end

/-! ### + - * // % ** -/
abbrev okI (i : Int) (G : GH) : Res D := .ok (.p (.int i)) G
def newL (ds : List D) (G : GH) : Res D := .ok (.ref G.length) (G ++ [.lst ds])
def oAdd : Op2 := fun d e G => match d, e with
  | .p (.int i), .p (.int j) => okI (i + j) G
  | .p (.str a), .p (.str b) => if a.length + b.length ≤ sizeLine then .ok (.p (.str (a ++ b))) G else .stuck
  | .ref i, .ref j => (match lstAt G i, lstAt G j with | some ds, some es => if ds.length + es.length ≤ sizeLine then newL (ds ++ es) G else .stuck | _, _ => .stuck)
  | d, e => (match itemsOf d, itemsOf e with | some ds, some es => if ds.length + es.length ≤ sizeLine then .ok (mkTup (ds ++ es)) G else .stuck | _, _ => .stuck)
def oSub : Op2 := fun d e G => match d, e with
  | .p (.int i), .p (.int j) => okI (i - j) G
  | _, _ => .stuck
def oneI (i : Int) : Bool := decide (-(2 ^ 64) < i) && decide (i < 2 ^ 64)
def oMul : Op2 := fun d e G => match d, e with
  | .p (.int i), .p (.int j) => if oneI i || oneI j then okI (i * j) G else .stuck
  | .ref i, .p (.int k) => (match lstAt G i with | some ds => if -(2 ^ 63) ≤ k ∧ k < 2 ^ 63 ∧ ds.length * k.toNat ≤ sizeLine then newL (List.replicate k.toNat ds).flatten G else .stuck | none => .stuck)
  | d, .p (.int k) => (match itemsOf d with | some ds => if ds ≠ [] ∧ 2 ≤ k ∧ k ≤ 1000 ∧ ds.length ≤ 1000 then .ok (mkTup (List.replicate k.toNat ds).flatten) G else .stuck | none => .stuck)
  | _, _ => .stuck
def oFdiv : Op2 := fun d e G => match d, e with
  | .p (.int i), .p (.int j) => if j ≠ 0 ∧ j.natAbs < 1073741824 then okI (i.fdiv j) G else .stuck
  | _, _ => .stuck
def oMod : Op2 := fun d e G => match d, e with
  | .p (.int i), .p (.int j) => if j ≠ 0 then okI (i.fmod j) G else .stuck
  | _, _ => .stuck
def oPow : Op2 := fun d e G => match d, e with
  | .p (.int i), .p (.int j) => if 0 ≤ j ∧ j ≤ 1000000 ∧ i.natAbs < 2 ^ 64 then okI (i ^ j.toNat) G else .stuck
  | _, _ => .stuck
section
variable {X : Cx} {C : Cf}
theorem RVL.rep {C : Cf} {θ : List Addr} {H : Hp} {ds : List D} {xs : List V} (r : RVL C θ H ds xs) : ∀ k : Nat, RVL C θ H (List.replicate k ds).flatten (List.replicate k xs).flatten
  | 0 => .nil
  | k + 1 => by
    rw [List.replicate_succ, List.replicate_succ, List.flatten_cons, List.flatten_cons]
    exact r.append (RVL.rep r k)
abbrev rAdd (K : PySem.W.Frag) : R2 := fun x y H Q => (rI0 (fun i j => .int (i + j)) x y H Q ∨ ∃ i j, x = .str i ∧ y = .str j ∧ i.length + j.length ≤ sizeLine ∧ Q (.str (i ++ j)) H) ∨ rCat x y H Q ∨ rCatA K x y H Q
theorem ox_add : OpR X (binaryOp .Add) (rAdd X.K) := (op_add.or op_add_str).or (op_cat.or op_catA)
theorem tup_add {C : Cf} {θ : List Addr} {H : Hp} {G : GH} {d e : D} {v w : V} {Q : VK} {E : XK} (R : Rel C θ H G) (rd : RV C θ H d v) (re : RV C θ H e w)
    (h : PostG C θ H (match itemsOf d, itemsOf e with | some ds, some es => if ds.length + es.length ≤ sizeLine then .ok (mkTup (ds ++ es)) G else .stuck | _, _ => .stuck : Res D) (fun d' _ θ' H' => ∀ u, RV C θ' H' d' u → Q u H') E) : rCatA C.K v w H Q := by
  cases q1 : itemsOf d with
  | none => rw [q1] at h; exact h.elim
  | some ds =>
    cases q2 : itemsOf e with
    | none => rw [q1, q2] at h; exact h.elim
    | some es =>
      rw [q1, q2] at h
      simp only at h
      by_cases hz : ds.length + es.length ≤ sizeLine
      · rw [if_pos hz] at h
        obtain ⟨a, xs, e1, s1, r1⟩ := items_rel q1 rd
        obtain ⟨b, ys, e2, s2, r2⟩ := items_rel q2 re
        refine ⟨a, b, xs, ys, e1, e2, s1, s2, by rw [← r1.length, ← r2.length]; exact hz, fun n => ?_, fun _ n => ?_, fun _ _ p hp => new_tup R (r1.append r2) hp h⟩
        · subst n
          cases r1
          exact same_val R (mkTup_rel s2 r2) h
        · subst n
          cases r2
          rw [List.append_nil] at h
          exact same_val R (mkTup_rel s1 r1) h
      · rw [if_neg hz] at h; exact h.elim
theorem od_add : OpD C oAdd (rAdd C.K) := by
  intro θ G H d e v w Q E R rd re h
  unfold oAdd at h
  split at h
  · cases rd with | p rd => cases rd; cases re with | p re => cases re; exact .inl (.inl ⟨_, _, rfl, rfl, same_val R (.p (.int _)) h⟩)
  · split at h
    · rename_i hz
      cases rd with | p rd => cases rd; cases re with | p re => cases re; exact .inl (.inr ⟨_, _, rfl, rfl, hz, same_val R (.p (.str _)) h⟩)
    · exact h.elim
  · rename_i i j
    cases rd with
    | ref hi =>
      cases re with
      | ref hj =>
        cases q1 : lstAt G i with
        | none => rw [q1] at h; exact h.elim
        | some ds =>
          cases q2 : lstAt G j with
          | none => rw [q1, q2] at h; exact h.elim
          | some es =>
            rw [q1, q2] at h
            simp only at h
            obtain ⟨xs, ex, r1⟩ := lstAt_rel R hi q1
            obtain ⟨ys, ey, r2⟩ := lstAt_rel R hj q2
            split at h
            · rename_i hz
              exact .inr (.inl ⟨_, _, xs, ys, rfl, rfl, ex, ey, by rw [← r1.length, ← r2.length]; exact hz, fun p hp => new_lst R (r1.append r2) hp h⟩)
            · exact h.elim
  · exact .inr (.inr (tup_add R rd re h))
theorem od_sub : OpD C oSub (rI0 fun i j => .int (i - j)) := by
  intro θ G H d e v w Q E R rd re h
  unfold oSub at h
  split at h
  · cases rd with | p rd => cases rd; cases re with | p re => cases re; exact ⟨_, _, rfl, rfl, same_val R (.p (.int _)) h⟩
  · exact h.elim
abbrev rMul (K : PySem.W.Frag) : R2 := fun x y H Q => rI CMul (fun i j => .int (i * j)) x y H Q ∨ rRep x y H Q ∨ rRepT K x y H Q
theorem ox_mul : OpR X (binaryOp .Mult) (rMul X.K) := op_mul.or (op_rep.or op_repT)
theorem oneI_iff {i : Int} (h : oneI i = true) : -(2 ^ 64) < i ∧ i < 2 ^ 64 := by
  simp only [oneI, Bool.and_eq_true, decide_eq_true_eq] at h; exact h
theorem od_mul : OpD C oMul (rMul C.K) := by
  intro θ G H d e v w Q E R rd re h
  unfold oMul at h
  split at h
  · split at h
    · rename_i hz
      rw [Bool.or_eq_true] at hz
      cases rd with | p rd => cases rd; cases re with | p re => cases re; exact .inl ⟨_, _, rfl, rfl, hz.imp oneI_iff oneI_iff, same_val R (.p (.int _)) h⟩
    · exact h.elim
  · rename_i i k
    cases rd with
    | ref hi =>
      cases re with
      | p re =>
        cases re
        cases q1 : lstAt G i with
        | none => rw [q1] at h; exact h.elim
        | some ds =>
          rw [q1] at h
          simp only at h
          obtain ⟨xs, ex, r1⟩ := lstAt_rel R hi q1
          split at h
          · rename_i hz
            exact .inr (.inl ⟨_, _, xs, rfl, rfl, ex, hz.1, hz.2.1, by rw [← r1.length]; exact hz.2.2, fun p hp => new_lst R (r1.rep _) hp h⟩)
          · exact h.elim
  · rename_i k _ _
    cases re with
    | p re =>
      cases re
      cases q1 : itemsOf d with
      | none => rw [q1] at h; exact h.elim
      | some ds =>
        rw [q1] at h
        simp only at h
        obtain ⟨a, xs, e1, s1, r1⟩ := items_rel q1 rd
        split at h
        · rename_i hz
          refine .inr (.inr ⟨a, _, xs, e1, rfl, s1, fun n => hz.1 ?_, hz.2.1, hz.2.2.1, by rw [← r1.length]; exact hz.2.2.2, fun p hp => new_tup R (r1.rep _) hp h⟩)
          have l := r1.length
          rw [n] at l
          exact List.eq_nil_of_length_eq_zero l
        · exact h.elim
  · exact h.elim
theorem od_fdiv : OpD C oFdiv (rI CDivN fun i j => .int (i.fdiv j)) := by
  intro θ G H d e v w Q E R rd re h
  unfold oFdiv at h
  split at h
  · split at h
    · rename_i hz
      cases rd with | p rd => cases rd; cases re with | p re => cases re; exact ⟨_, _, rfl, rfl, hz, same_val R (.p (.int _)) h⟩
    · exact h.elim
  · exact h.elim
theorem od_mod : OpD C oMod (rI (fun _ j => j ≠ 0) fun i j => .int (i.fmod j)) := by
  intro θ G H d e v w Q E R rd re h
  unfold oMod at h
  split at h
  · split at h
    · rename_i hz
      cases rd with | p rd => cases rd; cases re with | p re => cases re; exact ⟨_, _, rfl, rfl, hz, same_val R (.p (.int _)) h⟩
    · exact h.elim
  · exact h.elim
theorem od_pow : OpD C oPow (rI CPow fun i j => .int (i ^ j.toNat)) := by
  intro θ G H d e v w Q E R rd re h
  unfold oPow at h
  split at h
  · split at h
    · rename_i hz
      cases rd with | p rd => cases rd; cases re with | p re => cases re; exact ⟨_, _, rfl, rfl, hz, same_val R (.p (.int _)) h⟩
    · exact h.elim
  · exact h.elim
end

/-! ### == != < <= > >= in, not in, is -/
def scP : PyData → PyData → Bool
  | .none, .none => true | .none, .int _ => true | .int _, .none => true | .none, .bool _ => true | .bool _, .none => true | .none, .str _ => true | .str _, .none => true
  | .int _, .int _ => true | .bool _, .bool _ => true | .str _, .str _ => true
  | .int _, .str _ => true | .str _, .int _ => true | .bool _, .str _ => true | .str _, .bool _ => true
  | _, _ => false
def eqP (a b : PyData) : Option Bool := if scP a b = true then some (PyData.eqv a b) else if SeqAt.shaped a = true ∧ SeqAt.shaped b = true then some (PyData.eqv a b) else none
def cEq : Cm2 := fun d e G => match snap 64 G d, snap 64 G e with | some a, some b => eqP a b | _, _ => none
def cNe : Cm2 := fun d e G => (cEq d e G).map (!·)
abbrev rEqA (K : PySem.W.Frag) : R2 := fun x y H Q => rEq x y H Q ∨ rEqD K x y H Q
abbrev rNeA (K : PySem.W.Frag) : R2 := fun x y H Q => rNe x y H Q ∨ rNeD K x y H Q
section
variable {X : Cx} {C : Cf}
theorem ox_eq (hu : X.A.units + 64 < cLine) : OpR X (compareOp .Eq) (rEqA X.K) := op_eq.or (op_eqD hu)
theorem ox_ne (hu : X.A.units + 64 < cLine) : OpR X (compareOp .NotEq) (rNeA X.K) := op_ne.or (op_neD hu)
theorem sc_dp {K : PySem.W.Frag} {H : Hp} {v w : V} {a b : PyData} (h : scP a b = true) (ha : Dp K H v a) (hb : Dp K H w b) : scal v w = true ∧ decide (v = w) = PyData.eqv a b := by
  cases ha <;> cases hb <;> first | exact absurd (show false = true from h) Bool.false_ne_true | exact ⟨rfl, by simp only [PyData.eqv]; rw [Bool.eq_iff_iff]; simp⟩
theorem eqP_read {K : PySem.W.Frag} {H : Hp} {v w : V} {a b : PyData} {k : Bool} (h : eqP a b = some k) (ha : Dp K H v a) (hb : Dp K H w b) : k = PyData.eqv a b ∧ ((scal v w = true ∧ decide (v = w) = k) ∨ (SeqAt.shaped a = true ∧ SeqAt.shaped b = true)) := by
  unfold eqP at h
  split at h
  · rename_i hs
    cases h
    obtain ⟨h1, h2⟩ := sc_dp hs ha hb
    exact ⟨rfl, .inl ⟨h1, h2⟩⟩
  · split at h
    · rename_i hs
      cases h
      exact ⟨rfl, .inr hs⟩
    · cases h
theorem cd_eq : CmpD C cEq (rEqA C.K) := by
  intro θ G H d e v w Q b R rd re h q
  unfold cEq at h
  cases q1 : snap 64 G d with
  | none => rw [q1] at h; cases h
  | some x =>
    cases q2 : snap 64 G e with
    | none => rw [q1, q2] at h; cases h
    | some y =>
      rw [q1, q2] at h
      have h1 := dp_of R _ _ _ _ rd q1
      have h2 := dp_of R _ _ _ _ re q2
      obtain ⟨e1, z | z⟩ := eqP_read h h1 h2
      · exact .inl ⟨z.1, by rw [z.2]; exact q⟩
      · exact .inr ⟨x, y, h1, h2, z.1, z.2, by rw [← e1]; exact q⟩
theorem cd_ne : CmpD C cNe (rNeA C.K) := by
  intro θ G H d e v w Q b R rd re h q
  unfold cNe cEq at h
  cases q1 : snap 64 G d with
  | none => rw [q1] at h; cases h
  | some x =>
    cases q2 : snap 64 G e with
    | none => rw [q1, q2] at h; cases h
    | some y =>
      rw [q1, q2] at h
      simp only [Option.map_eq_some_iff] at h
      obtain ⟨k, h, hk⟩ := h
      subst hk
      have h1 := dp_of R _ _ _ _ rd q1
      have h2 := dp_of R _ _ _ _ re q2
      obtain ⟨e1, z | z⟩ := eqP_read h h1 h2
      · exact .inl ⟨z.1, by rw [z.2]; exact q⟩
      · exact .inr ⟨x, y, h1, h2, z.1, z.2, by rw [← e1]; exact q⟩
end
end Ev
set_option Elab.async false
set_option linter.all false
set_option maxRecDepth 100000
/-! Ev8: order, membership, is None. -/
namespace Ev
open PySem PySem.Spec PyProof.Rows L2

/-! ### < <= > >= -/
def cLt : Cm2 := fun d e _ => match d, e with
  | .p (.int i), .p (.int j) => some (decide (i < j))
  | .p (.str a), .p (.str b) => some (decide (a.cps.toList < b.cps.toList))
  | _, _ => none
def cLe : Cm2 := fun d e _ => match d, e with
  | .p (.int i), .p (.int j) => some (decide (i ≤ j))
  | .p (.str a), .p (.str b) => some (!decide (b.cps.toList < a.cps.toList))
  | _, _ => none
def cGt : Cm2 := fun d e _ => match d, e with
  | .p (.int i), .p (.int j) => some (decide (j < i))
  | .p (.str a), .p (.str b) => some (decide (b.cps.toList < a.cps.toList))
  | _, _ => none
def cGe : Cm2 := fun d e _ => match d, e with
  | .p (.int i), .p (.int j) => some (decide (j ≤ i))
  | .p (.str a), .p (.str b) => some (!decide (a.cps.toList < b.cps.toList))
  | _, _ => none
section
variable {X : Cx} {C : Cf}
abbrev rLtA : R2 := fun x y H Q => rI0 (fun i j => .bl (decide (i < j))) x y H Q ∨ ∃ i j, x = .str i ∧ y = .str j ∧ Q (.bl (decide (i.cps.toList < j.cps.toList))) H
abbrev rLeA : R2 := fun x y H Q => rI0 (fun i j => .bl (decide (i ≤ j))) x y H Q ∨ ∃ i j, x = .str i ∧ y = .str j ∧ Q (.bl (!decide (j.cps.toList < i.cps.toList))) H
abbrev rGtA : R2 := fun x y H Q => rI0 (fun i j => .bl (decide (j < i))) x y H Q ∨ ∃ i j, x = .str i ∧ y = .str j ∧ Q (.bl (decide (j.cps.toList < i.cps.toList))) H
abbrev rGeA : R2 := fun x y H Q => rI0 (fun i j => .bl (decide (j ≤ i))) x y H Q ∨ ∃ i j, x = .str i ∧ y = .str j ∧ Q (.bl (!decide (i.cps.toList < j.cps.toList))) H
theorem ox_lt : OpR X (compareOp .Lt) rLtA := op_lt.or op_lt_str
theorem ox_le : OpR X (compareOp .LtE) rLeA := op_le.or op_le_str
theorem ox_gt : OpR X (compareOp .Gt) rGtA := op_gt.or op_gt_str
theorem ox_ge : OpR X (compareOp .GtE) rGeA := op_ge.or op_ge_str
theorem cd_lt : CmpD C cLt rLtA := by
  intro θ G H d e v w Q b R rd re h q
  unfold cLt at h
  split at h
  · cases h; cases rd with | p rd => cases rd; cases re with | p re => cases re; exact .inl ⟨_, _, rfl, rfl, q⟩
  · cases h; cases rd with | p rd => cases rd; cases re with | p re => cases re; exact .inr ⟨_, _, rfl, rfl, q⟩
  · cases h
theorem cd_le : CmpD C cLe rLeA := by
  intro θ G H d e v w Q b R rd re h q
  unfold cLe at h
  split at h
  · cases h; cases rd with | p rd => cases rd; cases re with | p re => cases re; exact .inl ⟨_, _, rfl, rfl, q⟩
  · cases h; cases rd with | p rd => cases rd; cases re with | p re => cases re; exact .inr ⟨_, _, rfl, rfl, q⟩
  · cases h
theorem cd_gt : CmpD C cGt rGtA := by
  intro θ G H d e v w Q b R rd re h q
  unfold cGt at h
  split at h
  · cases h; cases rd with | p rd => cases rd; cases re with | p re => cases re; exact .inl ⟨_, _, rfl, rfl, q⟩
  · cases h; cases rd with | p rd => cases rd; cases re with | p re => cases re; exact .inr ⟨_, _, rfl, rfl, q⟩
  · cases h
theorem cd_ge : CmpD C cGe rGeA := by
  intro θ G H d e v w Q b R rd re h q
  unfold cGe at h
  split at h
  · cases h; cases rd with | p rd => cases rd; cases re with | p re => cases re; exact .inl ⟨_, _, rfl, rfl, q⟩
  · cases h; cases rd with | p rd => cases rd; cases re with | p re => cases re; exact .inr ⟨_, _, rfl, rfl, q⟩
  · cases h

/-! ### is None -/
def isNo : D → Bool
  | .p .none => true
  | _ => false
def cIsN : Cm2 := fun d e _ => match e with
  | .p .none => some (isNo d)
  | _ => none
def cNotN : Cm2 := fun d e G => (cIsN d e G).map (!·)
theorem non_rel {θ : List Addr} {H : Hp} {d : D} {v : V} (r : RV C θ H d v) : decide (v = .non) = isNo d := by
  cases r with
  | p r => cases r <;> simp [isNo]
  | _ => simp [isNo]
theorem cd_isN : CmpD C cIsN (fun x y H Q => y = .non ∧ Q (.bl (decide (x = .non))) H) := by
  intro θ G H d e v w Q b R rd re h q
  unfold cIsN at h
  split at h
  · cases re with
    | p re => cases re; exact ⟨rfl, by rw [non_rel rd]; cases h; exact q⟩
  · cases h
theorem cd_notN : CmpD C cNotN (fun x y H Q => y = .non ∧ Q (.bl (!decide (x = .non))) H) := by
  intro θ G H d e v w Q b R rd re h q
  unfold cNotN cIsN at h
  split at h
  · cases re with
    | p re => cases re; exact ⟨rfl, by rw [non_rel rd]; cases h; exact q⟩
  · cases h

/-! ### in, not in: one sign in a text, a datum in a list or a tuple -/
def flatP : PyData → Bool
  | .none => true | .bool _ => true | .int _ => true | .str _ => true
  | _ => false
def inP (x : PyData) (ys : List PyData) : Option Bool :=
  if (flatP x && ys.all flatP) = true then some (ys.any fun y => PyData.eqv y x)
  else if SeqAt.shaped x = true ∧ SeqAt.shaped (.list ys) = true then some (ys.any fun y => PyData.eqv y x) else none
def inS (c z : Str) : Option Bool := match c.cps.toList with | [x] => some (decide (x ∈ z.cps.toList)) | _ => none
def seqData : PyData → Option (List PyData)
  | .list ys => some ys
  | .tuple ys => some ys
  | _ => none
def cIn : Cm2 := fun d e G => match d, e with
  | .p (.str c), .p (.str z) => inS c z
  | d, e => (snap 64 G d).bind fun x => (snap 64 G e).bind fun y => (seqData y).bind fun ys => inP x ys
def cNotIn : Cm2 := fun d e G => (cIn d e G).map (!·)
def rInT (K : PySem.W.Frag) : R2 := fun x y H Q => ∃ d ds, Dp K H x d ∧ Dp K H y (.tuple ds) ∧ SeqAt.shaped d = true ∧ SeqAt.shaped (.tuple ds) = true ∧ Q (.bl (ds.any fun z => PyData.eqv z d)) H
def rNotInT (K : PySem.W.Frag) : R2 := fun x y H Q => ∃ d ds, Dp K H x d ∧ Dp K H y (.tuple ds) ∧ SeqAt.shaped d = true ∧ SeqAt.shaped (.tuple ds) = true ∧ Q (.bl (!ds.any fun z => PyData.eqv z d)) H
theorem op_inT (hu : X.A.units + 65 < cLine) : OpR X (compareOp .In) (rInT X.K) := fun pins s σ H x y v u Q I rx ry ⟨d, ds, k1, k2, s1, s2, q⟩ => by
  obtain ⟨_, r1⟩ := Dp.reads I d x v k1 rx
  obtain ⟨_, r2⟩ := Dp.reads I (.tuple ds) y u k2 ry
  exact SeqAt.in_tuple_reads r2 r1 (by have := SeqAt.canLay_of_shaped s2; rwa [PyData.canLay0] at this) (SeqAt.canLay_of_shaped s1) (room_in_shaped s1 hu) ⟨.bl _, H, I, rfl, q⟩
theorem op_notInT (hu : X.A.units + 65 < cLine) : OpR X (compareOp .NotIn) (rNotInT X.K) := fun pins s σ H x y v u Q I rx ry ⟨d, ds, k1, k2, s1, s2, q⟩ => by
  obtain ⟨_, r1⟩ := Dp.reads I d x v k1 rx
  obtain ⟨_, r2⟩ := Dp.reads I (.tuple ds) y u k2 ry
  exact SeqAt.notIn_tuple_reads r2 r1 (by have := SeqAt.canLay_of_shaped s2; rwa [PyData.canLay0] at this) (SeqAt.canLay_of_shaped s1) (room_in_shaped s1 hu) ⟨.bl _, H, I, rfl, q⟩
abbrev rInA (K : PySem.W.Frag) : R2 := fun x y H Q => (∃ (c : Nat) (z : Str), x = .str ⟨#[c]⟩ ∧ y = .str z ∧ Q (.bl (decide (c ∈ z.cps.toList))) H) ∨ rIn K false x y H Q ∨ rInD K x y H Q ∨ rInT K x y H Q
abbrev rNotInA (K : PySem.W.Frag) : R2 := fun x y H Q => (∃ (c : Nat) (z : Str), x = .str ⟨#[c]⟩ ∧ y = .str z ∧ Q (.bl (!decide (c ∈ z.cps.toList))) H) ∨ rIn K true x y H Q ∨ rNotInD K x y H Q ∨ rNotInT K x y H Q
theorem ox_in (hu : X.A.units + 65 < cLine) : OpR X (compareOp .In) (rInA X.K) := op_in_sign.or (op_in_seq.or ((op_inD hu).or (op_inT hu)))
theorem ox_notIn (hu : X.A.units + 65 < cLine) : OpR X (compareOp .NotIn) (rNotInA X.K) := op_notIn_sign.or (op_notIn_seq.or ((op_notInD hu).or (op_notInT hu)))
theorem flat_dp {K : PySem.W.Frag} {H : Hp} {v : V} {d : PyData} (h : flatP d = true) (r : Dp K H v d) : flatV v = true := by
  cases r <;> first | rfl | exact absurd (show false = true from h) Bool.false_ne_true
theorem flat_eqv {K : PySem.W.Frag} {H : Hp} {v w : V} {d e : PyData} (hd : flatP d = true) (he : flatP e = true) (r : Dp K H v d) (q : Dp K H w e) : L2.eqV v w = PyData.eqv d e := by
  cases r <;> cases q <;> first | exact absurd (show false = true from hd) Bool.false_ne_true | exact absurd (show false = true from he) Bool.false_ne_true | (simp only [L2.eqV, PyData.eqv])
theorem flat_all {K : PySem.W.Frag} {H : Hp} {x : V} {d : PyData} (hd : flatP d = true) (q : Dp K H x d) : ∀ {vs : List V} {es : List PyData}, DpAll K H vs es → es.all flatP = true → vs.all flatV = true ∧ inV x vs = es.any fun y => PyData.eqv y d
  | _, _, .nil, _ => ⟨rfl, rfl⟩
  | _, _, .cons r t, h => by
    rw [List.all_cons, Bool.and_eq_true] at h
    obtain ⟨h1, h2⟩ := flat_all hd q t h.2
    refine ⟨by rw [List.all_cons, flat_dp h.1 r, h1]; rfl, ?_⟩
    show (L2.eqV _ _ || inV x _) = _
    rw [List.any_cons, flat_eqv h.1 hd r q, h2]
theorem seq_dp {K : PySem.W.Frag} {H : Hp} {v : V} {y : PyData} {ys : List PyData} (h : seqData y = some ys) (r : Dp K H v y) : ∃ p xs, v = .ref p ∧ (SqL K H p xs ∨ SqT K H p xs) ∧ DpAll K H xs ys := by
  cases r with
  | lst h1 h2 => cases h; exact ⟨_, _, rfl, .inl h1, h2⟩
  | tup h1 h2 => cases h; exact ⟨_, _, rfl, .inr h1, h2⟩
  | _ => cases h
theorem shaped_tl {ys : List PyData} : SeqAt.shaped (.tuple ys) = SeqAt.shaped (.list ys) := by
  unfold SeqAt.shaped
  simp only [PyData.canLay0, PyData.depth]
  try rfl
theorem in_sign {c z : Str} {b : Bool} (h : inS c z = some b) : ∃ x, c = ⟨#[x]⟩ ∧ b = decide (x ∈ z.cps.toList) := by
  unfold inS at h
  split at h
  · rename_i x e
    cases h
    refine ⟨x, ?_, rfl⟩
    cases c with
    | mk cps =>
      have : cps = [x].toArray := by rw [← e]
      rw [this]
  · cases h
theorem in_seq_read {C : Cf} {θ : List Addr} {G : GH} {H : Hp} {d e : D} {v w : V} {b : Bool} (R : Rel C θ H G) (rd : RV C θ H d v) (re : RV C θ H e w) (h : ((snap 64 G d).bind fun x => (snap 64 G e).bind fun y => (seqData y).bind fun ys => inP x ys) = some b) :
    (∃ p xs, w = .ref p ∧ (SqL C.K H p xs ∨ SqT C.K H p xs) ∧ flatV v = true ∧ xs.all flatV = true ∧ inV v xs = b) ∨
    (∃ x ys, Dp C.K H v x ∧ Dp C.K H w (.list ys) ∧ SeqAt.shaped x = true ∧ SeqAt.shaped (.list ys) = true ∧ (ys.any fun y => PyData.eqv y x) = b) ∨
    ∃ x ys, Dp C.K H v x ∧ Dp C.K H w (.tuple ys) ∧ SeqAt.shaped x = true ∧ SeqAt.shaped (.tuple ys) = true ∧ (ys.any fun y => PyData.eqv y x) = b := by
  rw [Option.bind_eq_some_iff] at h
  obtain ⟨x, q1, h⟩ := h
  rw [Option.bind_eq_some_iff] at h
  obtain ⟨y, q2, h⟩ := h
  rw [Option.bind_eq_some_iff] at h
  obtain ⟨ys, q3, h⟩ := h
  have h1 := dp_of R _ _ _ _ rd q1
  have h2 := dp_of R _ _ _ _ re q2
  unfold inP at h
  split at h
  · rename_i hf
    rw [Bool.and_eq_true] at hf
    cases h
    obtain ⟨p, xs, e1, hs, da⟩ := seq_dp q3 h2
    obtain ⟨f1, f2⟩ := flat_all hf.1 h1 da hf.2
    exact .inl ⟨p, xs, e1, hs, flat_dp hf.1 h1, f1, f2⟩
  · split at h
    · rename_i hs
      cases h
      cases y with
      | list zs => cases q3; exact .inr (.inl ⟨x, ys, h1, h2, hs.1, hs.2, rfl⟩)
      | tuple zs => cases q3; exact .inr (.inr ⟨x, ys, h1, h2, hs.1, by rw [shaped_tl]; exact hs.2, rfl⟩)
      | _ => cases q3
    · cases h
theorem cd_in : CmpD C cIn (rInA C.K) := by
  intro θ G H d e v w Q b R rd re h q
  unfold cIn at h
  split at h
  · obtain ⟨x, e1, e2⟩ := in_sign h
    cases rd with | p rd => cases rd; cases re with | p re => cases re; exact .inl ⟨x, _, by rw [e1], rfl, by rw [← e2]; exact q⟩
  · rcases in_seq_read R rd re h with ⟨p, xs, h1, h2, h3, h4, h5⟩ | ⟨x, ys, h1, h2, h3, h4, h5⟩ | ⟨x, ys, h1, h2, h3, h4, h5⟩
    · exact .inr (.inl ⟨p, xs, h1, h2, h3, h4, by rw [if_neg Bool.false_ne_true, h5]; exact q⟩)
    · exact .inr (.inr (.inl ⟨x, ys, h1, h2, h3, h4, by rw [h5]; exact q⟩))
    · exact .inr (.inr (.inr ⟨x, ys, h1, h2, h3, h4, by rw [h5]; exact q⟩))
theorem cd_notIn : CmpD C cNotIn (rNotInA C.K) := by
  intro θ G H d e v w Q b R rd re h q
  unfold cNotIn cIn at h
  rw [Option.map_eq_some_iff] at h
  obtain ⟨b', h, hb⟩ := h
  subst hb
  split at h
  · obtain ⟨x, e1, e2⟩ := in_sign h
    cases rd with | p rd => cases rd; cases re with | p re => cases re; exact .inl ⟨x, _, by rw [e1], rfl, by rw [← e2]; exact q⟩
  · rcases in_seq_read R rd re h with ⟨p, xs, h1, h2, h3, h4, h5⟩ | ⟨x, ys, h1, h2, h3, h4, h5⟩ | ⟨x, ys, h1, h2, h3, h4, h5⟩
    · exact .inr (.inl ⟨p, xs, h1, h2, h3, h4, by rw [if_pos rfl, h5]; exact q⟩)
    · exact .inr (.inr (.inl ⟨x, ys, h1, h2, h3, h4, by rw [h5]; exact q⟩))
    · exact .inr (.inr (.inr ⟨x, ys, h1, h2, h3, h4, by rw [h5]; exact q⟩))
end
end Ev
set_option Elab.async false
set_option linter.all false
set_option maxRecDepth 100000
/-! Ev9: subscripts, slices, built-in functions, methods of lists and texts, stores. -/
namespace Ev
open PySem PySem.Spec PyProof.Rows L2

/-! ### a[b] -/
def IxD (C : Cf) (f : Op2) (r : R2) : Prop := OpD C f r
def oIx : Op2 := fun d e G => match d, e with
  | .p (.str z), .p (.int i) => if z.length ≤ sizeLine then (match atI z.cps.toList i with | some c => .ok (.p (.str ⟨#[c]⟩)) G | none => .stuck) else .stuck
  | .ref l, .p (.int i) => (match (lstAt G l).bind fun ds => atI ds i with | some d => .ok d G | none => .stuck)
  | .kl ds, .p (.int i) => (match atI ds i with | some d => .ok (.p d) G | none => .stuck)
  | d, .p (.int i) => (match (itemsOf d).bind fun ds => atI ds i with | some d => .ok d G | none => .stuck)
  | _, _ => .stuck
section
variable {X : Cx} {C : Cf} {θ : List Addr} {H : Hp} {G : GH}
theorem RVL.atI {ds : List D} {vs : List V} (r : RVL C θ H ds vs) {i : Int} {d : D} (h : L2.atI ds i = some d) : ∃ v, L2.atI vs i = some v ∧ RV C θ H d v := by
  unfold L2.atI at h ⊢
  rw [← r.length]
  cases q : ixN ds.length i with
  | none => rw [q] at h; cases h
  | some j =>
    rw [q] at h
    exact r.get h
theorem RpL.atI {ds : List PyData} {vs : List V} (r : RpL C H ds vs) {i : Int} {d : PyData} (h : L2.atI ds i = some d) : ∃ v, L2.atI vs i = some v ∧ Rp C H d v := by
  have r2 : RVL C [] H (ds.map .p) vs := r.rvl
  have h2 : L2.atI (ds.map D.p) i = some (.p d) := by
    unfold L2.atI at h ⊢
    rw [List.length_map]
    cases q : ixN ds.length i with
    | none => rw [q] at h; cases h
    | some j =>
      rw [q] at h
      have h' : ds[j]? = some d := h
      show (ds.map D.p)[j]? = _
      rw [List.getElem?_map, h']; rfl
  obtain ⟨v, e, rv⟩ := r2.atI h2
  cases rv with | p rv => exact ⟨v, e, rv⟩
theorem od_ix : OpD C oIx (rIx C.K) := by
  intro θ G H d e v w Q E R rd re h
  unfold oIx at h
  split at h
  · split at h
    · rename_i hz
      split at h
      · rename_i c hc
        cases rd with | p rd => cases rd; cases re with | p re => cases re; exact .inr (.inr ⟨_, _, c, rfl, rfl, hz, hc, same_val R (.p (.str _)) h⟩)
      · exact h.elim
    · exact h.elim
  · rename_i l i
    cases q : (lstAt G l).bind fun ds => atI ds i with
    | none => rw [q] at h; exact h.elim
    | some x =>
      rw [q] at h
      rw [Option.bind_eq_some_iff] at q
      obtain ⟨ds, q1, q2⟩ := q
      cases rd with
      | ref hi =>
        obtain ⟨xs, ex, rl⟩ := lstAt_rel R hi q1
        obtain ⟨u, hu, ru⟩ := rl.atI q2
        cases re with | p re => cases re; exact .inl ⟨_, xs, _, u, rfl, rfl, SqL.of ex, hu, same_val R ru h⟩
  · rename_i ds i
    cases q : atI ds i with
    | none => rw [q] at h; exact h.elim
    | some x =>
      rw [q] at h
      cases rd with
      | kl hs rl =>
        obtain ⟨u, hu, ru⟩ := rl.atI q
        cases re with | p re => cases re; exact .inl ⟨_, _, _, u, rfl, rfl, hs.sql, hu, same_val R (.p ru) h⟩
  · rename_i i _ _ _
    cases q : (itemsOf d).bind fun ds => atI ds i with
    | none => rw [q] at h; exact h.elim
    | some x =>
      rw [q] at h
      rw [Option.bind_eq_some_iff] at q
      obtain ⟨ds, q1, q2⟩ := q
      obtain ⟨a, xs, ev, hs, rl⟩ := items_rel q1 rd
      obtain ⟨u, hu, ru⟩ := rl.atI q2
      cases re with | p re => cases re; exact .inr (.inl ⟨a, xs, _, u, ev, rfl, hs, hu, same_val R ru h⟩)
  · exact h.elim
end
section
variable {X : Cx} {fa : Nat → Option Addr} {W : WX} {a b : Expr} {ma mb : DE} {pos : Pos}
theorem se_ix {r : R2} {f : Op2} (hr : IxR X r) (hf : OpD (cf X fa) f r) (ha : SE X fa W a ma) (hb : SE X fa W b mb) (hs : PlainIx b := by intro _ _; rfl) : SE X fa W (.Subscript a b pos) (eBin f ma mb) := by
  refine wkE (pe_ix hr ha hb hs) fun σ H Q ⟨ρ, θ, G, R, e, h⟩ => ?_
  refine runE R e h fun d G1 θ1 H1 v st1 R1 e1 rv h1 => ?_
  refine runE R1 e1 h1 fun d2 G2 θ2 H2 w st2 R2 e2 rw h2 => ?_
  exact hf θ2 G2 H2 d d2 v w Q _ R2 (rv.step R1 st2) rw h2
end

/-! ### a[lo:hi] -/
abbrev DO := Rho → GH → Res (Option Int)
def oNo : DO := fun _ G => .ok none G
def oSome (e : DE) : DO := fun ρ G => (e ρ G).bind fun d G => match d with | .p (.int i) => .ok (some i) G | _ => .stuck
def cutD {α : Type} (xs : List α) (lo hi : Option Int) : List α := (xs.drop (HT.sIx xs.length 0 lo)).take (HT.sIx xs.length xs.length hi - HT.sIx xs.length 0 lo)
def slD (d : D) (lo hi : Option Int) (G : GH) : Res D := match d with
  | .p (.str z) => if z.length ≤ sizeLine then .ok (.p (.str (Txt.slice z lo hi))) G else .stuck
  | .ref l => (match lstAt G l with | some ds => newL (cutD ds lo hi) G | none => .stuck)
  | .kl ds => newL ((cutD ds lo hi).map .p) G
  | d => (match itemsOf d with | some ds => .ok (mkTup (cutD ds lo hi)) G | none => .stuck)
def eSl (e : DE) (lo hi : DO) : DE := fun ρ G => (e ρ G).bind fun d G => (lo ρ G).bind fun l G => (hi ρ G).bind fun u G => slD d l u G
section
variable {X : Cx} {fa : Nat → Option Addr} {W : WX} {a b : Expr} {ma mb : DE} {pos p2 : Pos} {lo hi : Option Expr} {ml mh : DO}
def canO (C : Cf) (W : WX) (m : DO) : TO := fun σ H Q => ∃ ρ θ G, Rel C θ H G ∧ REnv C θ H ρ σ ∧ PostG C θ H (m ρ G) (fun o _ _ H' => Q o H') (WE W σ)
abbrev SO (X : Cx) (fa : Nat → Option Addr) (W : WX) (e : Option Expr) (m : DO) : Prop := PO X e (canO (cf X fa) W m)
theorem wkO {e : Option Expr} {t t' : TO} (h : PO X e t) (k : ∀ σ H Q, t' σ H Q → t σ H Q) : PO X e t' := ⟨fun pins s σ H Q I q => h.run pins s σ H Q I (k σ H Q q)⟩
theorem so_none : SO X fa W none oNo := wkO po_none fun σ H Q ⟨ρ, θ, G, R, e, h⟩ => h.now R
theorem so_some {e : Expr} {m : DE} (h : SE X fa W e m) : SO X fa W (some e) (oSome m) := by
  refine wkO (po_some h) fun σ H Q ⟨ρ, θ, G, R, e, h⟩ => ?_
  refine runE R e h fun d G1 θ1 H1 v st1 R1 e1 rv h1 => ?_
  cases rv with
  | p r =>
    cases r with
    | int i => exact ⟨i, rfl, h1.now R1⟩
    | _ => exact h1.elim
  | _ => exact h1.elim
theorem runO {C : Cf} {W : WX} {σ : L2.St} {H : Hp} {m : DO} {β : Type} {ρ : Rho} {θ : List Addr} {G : GH} {k : Option Int → GH → Res β} {P : β → GH → List Addr → Hp → Prop} (R : Rel C θ H G) (e : REnv C θ H ρ σ) (h : PostG C θ H ((m ρ G).bind k) P (WE W σ)) {Q : Option Int → Hp → Prop}
    (q : ∀ d G1 θ1 H1, Step θ H θ1 H1 → Rel C θ1 H1 G1 → REnv C θ1 H1 ρ σ → PostG C θ1 H1 (k d G1) P (WE W σ) → Q d H1) : canO C W m σ H Q :=
  ⟨ρ, θ, G, R, e, h.bind.mono fun d G1 θ1 H1 st R1 p => q d G1 θ1 H1 st R1 (e.step R st) p⟩
abbrev rSl (K : PySem.W.Frag) : V → Option Int → Option Int → Hp → VK → Prop := fun x lo hi H Q => rSlL K x lo hi H Q ∨ rSlA K x lo hi H Q ∨ C8.rSlX x lo hi H Q
theorem sl_any : SlR X (rSl X.K) := sl_list.or (sl_tupA.or C8.sl_txt)
theorem RVL.cut {C : Cf} {θ : List Addr} {H : Hp} {ds : List D} {vs : List V} (r : RVL C θ H ds vs) (lo hi : Option Int) : RVL C θ H (cutD ds lo hi) (cutV vs lo hi) := by
  unfold cutD cutV
  rw [← r.length]
  exact (r.drop _).take _
theorem cut_all {α : Type} {xs : List α} {lo hi : Option Int} (h : HT.sIx xs.length 0 lo = 0 ∧ HT.sIx xs.length xs.length hi = xs.length) : cutD xs lo hi = xs := by
  unfold cutD
  rw [h.1, h.2]; simp
theorem cut_map {α β : Type} (f : α → β) (xs : List α) (lo hi : Option Int) : cutD (xs.map f) lo hi = (cutD xs lo hi).map f := by
  unfold cutD
  rw [List.length_map, List.map_take, List.map_drop]
theorem sl_read {C : Cf} {θ : List Addr} {H : Hp} {G : GH} {d : D} {v : V} {lo hi : Option Int} {Q : VK} {E : XK} (R : Rel C θ H G) (rd : RV C θ H d v) (h : PostG C θ H (slD d lo hi G) (fun d' _ θ' H' => ∀ u, RV C θ' H' d' u → Q u H') E) : rSl C.K v lo hi H Q := by
  unfold slD at h
  split at h
  · split at h
    · rename_i hz
      cases rd with | p rd => cases rd; exact .inr (.inr ⟨_, rfl, hz, same_val R (.p (.str _)) h⟩)
    · exact h.elim
  · rename_i l
    cases q : lstAt G l with
    | none => rw [q] at h; exact h.elim
    | some ds =>
      rw [q] at h
      cases rd with
      | ref hi' =>
        obtain ⟨xs, ex, rl⟩ := lstAt_rel R hi' q
        exact .inl ⟨_, xs, rfl, SqL.of ex, fun p hp => new_lst R (rl.cut lo hi) hp h⟩
  · rename_i ds
    cases rd with
    | kl hs rl =>
      rw [← cut_map] at h
      exact .inl ⟨_, _, rfl, hs.sql, fun p hp => new_lst R ((RpL.rvl rl).cut lo hi) hp h⟩
  · cases q : itemsOf d with
    | none => rw [q] at h; exact h.elim
    | some ds =>
      rw [q] at h
      obtain ⟨a, xs, ev, hs, rl⟩ := items_rel q rd
      refine .inr (.inl ⟨a, xs, ev, hs, fun z => ?_, fun _ p hp => new_tup R (rl.cut lo hi) hp h⟩)
      rw [← rl.length] at z
      simp only [cut_all z] at h
      exact same_val R (mkTup_rel hs rl) h
theorem se_sl (ha : SE X fa W a ma) (hl : SO X fa W lo ml) (hh : SO X fa W hi mh) : SE X fa W (.Subscript a (.Slice lo hi none p2) pos) (eSl ma ml mh) := by
  refine wkE (pe_slice sl_any ha hl hh) fun σ H Q ⟨ρ, θ, G, R, e, h⟩ => ?_
  refine runE R e h fun d G1 θ1 H1 v st1 R1 e1 rv h1 => ?_
  refine runO R1 e1 h1 fun l G2 θ2 H2 st2 R2 e2 h2 => ?_
  refine runO R2 e2 h2 fun u G3 θ3 H3 st3 R3 e3 h3 => ?_
  exact sl_read R3 ((rv.step R1 st2).step R2 st3) h3
end

/-! ### built-in functions by values -/
abbrev ClR := List V → Hp → VK → Prop
def ClD (C : Cf) (f : Fn) (r : ClR) : Prop := ∀ θ G H ds vs Q (E : XK), Rel C θ H G → RVL C θ H ds vs → PostG C θ H (f ds G) (fun d' _ θ' H' => ∀ u, RV C θ' H' d' u → Q u H') E → r vs H Q
def eFn (f : Fn) (as : DA) : DE := fun ρ G => (as ρ G).bind f
section
variable {X : Cx} {fa : Nat → Option Addr} {W : WX} {x : Str} {p pos : Pos} {e : Expr} {es : List Expr} {ms : DA} {id T : String} {r : ClR} {f : Fn}
theorem se_blt (hc : CallR X (.builtin id) r) (hf : ClD (cf X fa) f r) (hg : Gl X x) (hm : X.mg x = none) (hv : bootBuiltins x = some (.builtin id)) (ha : SA X fa W (e :: es) ms) (hn : x ≠ "__name__" := by decide) (hdb : (x == ("__debug__" : Str)) = false := by decide)
    (he : starEach (e :: es) X.env = (false, eval e X.env) :: starEach es X.env := by rfl) (hpl : (backTo pos (starEach es X.env)).any (·.1) = false := by rfl) : SE X fa W (.Call (.Name x p) (e :: es) [] pos) (eFn f ms) := by
  refine wkE (pe_callB hc hg hm hv ha hn hdb he hpl) fun σ H Q ⟨ρ, θ, G, R, e, h⟩ => ?_
  exact runA R e h fun ds G1 θ1 H1 vs st1 R1 e1 rv h1 => hf θ1 G1 H1 ds vs Q _ R1 rv h1
theorem se_bty (hc : CallR X (.type T) r) (hf : ClD (cf X fa) f r) (hg : Gl X x) (hm : X.mg x = none) (hv : bootBuiltins x = some (.type T)) (ha : SA X fa W (e :: es) ms) (hn : x ≠ "__name__" := by decide) (hdb : (x == ("__debug__" : Str)) = false := by decide)
    (he : starEach (e :: es) X.env = (false, eval e X.env) :: starEach es X.env := by rfl) (hpl : (backTo pos (starEach es X.env)).any (·.1) = false := by rfl) : SE X fa W (.Call (.Name x p) (e :: es) [] pos) (eFn f ms) := by
  refine wkE (pe_callTy hc hg hm hv ha hn hdb he hpl) fun σ H Q ⟨ρ, θ, G, R, e, h⟩ => ?_
  exact runA R e h fun ds G1 θ1 H1 vs st1 R1 e1 rv h1 => hf θ1 G1 H1 ds vs Q _ R1 rv h1
end
def seqOf (d : D) (G : GH) : Option (List D) := match d with
  | .ref i => lstAt G i
  | .kl ds => some (ds.map .p)
  | _ => none
def fLen : Fn := fun ds G => match ds with
  | [.p (.str z)] => if z.length ≤ sizeLine then okI z.length G else .stuck
  | [d] => (match seqOf d G with
    | some xs => okI xs.length G
    | none => (match itemsOf d with
      | some xs => okI xs.length G
      | none => (match d with
        | .ref i => (match G[i]? with | some (.dict kvs) => okI kvs.length G | _ => .stuck)
        | _ => .stuck)))
  | _ => .stuck
def fAbs : Fn := fun ds G => match ds with | [.p (.int i)] => okI (if i < 0 then -i else i) G | _ => .stuck
def fInt : Fn := fun ds G => match ds with | [.p (.int i)] => okI i G | [.p (.bool b)] => okI (if b then 1 else 0) G | _ => .stuck
def fMin : Fn := fun ds G => match ds with | [.p (.int i), .p (.int j)] => okI (if j < i then j else i) G | _ => .stuck
def fMax : Fn := fun ds G => match ds with | [.p (.int i), .p (.int j)] => okI (if j > i then j else i) G | _ => .stuck
def fTuple : Fn := fun ds G => match ds with
  | [d] => (match seqOf d G with | some xs => .ok (mkTup xs) G | none => (match itemsOf d with | some xs => .ok (mkTup xs) G | none => .stuck))
  | _ => .stuck
def fList : Fn := fun ds G => match ds with
  | [d] => (match seqOf d G with | some xs => newL xs G | none => (match itemsOf d with | some xs => newL xs G | none => .stuck))
  | _ => .stuck
def boolsOf : List D → Option (List Bool)
  | [] => some []
  | .p (.bool b) :: r => (boolsOf r).map (b :: ·)
  | _ :: _ => none
def intsOf : List D → Option (List Int)
  | [] => some []
  | .p (.int b) :: r => (intsOf r).map (b :: ·)
  | _ :: _ => none
def fAll : Fn := fun ds G => match ds with | [d] => (match (seqOf d G).bind boolsOf with | some bs => .ok (.p (.bool (bs.all id))) G | none => .stuck) | _ => .stuck
def fAny : Fn := fun ds G => match ds with | [d] => (match (seqOf d G).bind boolsOf with | some bs => .ok (.p (.bool (bs.any id))) G | none => .stuck) | _ => .stuck
def fSum : Fn := fun ds G => match ds with | [d] => (match (seqOf d G).bind intsOf with | some ns => okI ns.sum G | none => .stuck) | _ => .stuck
def fStr : Fn := fun ds G => match ds with | [.p (.int i)] => if i.natAbs.log2 < 1920 then .ok (.p (.str (toString i))) G else .stuck | _ => .stuck
def fRepr : Fn := fun ds G => match ds with
  | [d] => (match snap 64 G d with | some y => (match seqData y with | some _ => if PyData.showable y = true ∧ PyData.hasDict y = false ∧ y.depth ≤ 64 ∧ y.shown.length ≤ sizeLine then .ok (.p (.str y.shown)) G else .stuck | none => .stuck) | none => .stuck)
  | _ => .stuck
def tyName (G : GH) : D → Option String
  | .p .none => some "NoneType"
  | .p (.bool _) => some "bool"
  | .p (.int _) => some "int"
  | .p (.str _) => some "str"
  | .p (.tuple _) => some "tuple"
  | .mt _ => some "tuple"
  | .kl _ => some "list"
  | .ref i => (match G[i]? with | some (.lst _) => some "list" | _ => none)
  | _ => none
def isTy (a b : String) : Option Bool := if (["NoneType", "bool", "int", "str", "tuple", "list", "dict"].contains a && ["bool", "int", "str", "tuple", "list", "dict"].contains b) = true then some (a == b || (a == "bool" && b == "int")) else none
def fIsi : Fn := fun ds G => match ds with
  | [d, .ty T] => (match (tyName G d).bind fun a => isTy a T with | some b => .ok (.p (.bool b)) G | none => .stuck)
  | _ => .stuck
section
variable {X : Cx} {C : Cf} {θ : List Addr} {H : Hp} {G : GH}
theorem one_val {d : D} {vs : List V} (r : RVL C θ H [d] vs) : ∃ v, vs = [v] ∧ RV C θ H d v := by
  cases r with | cons r t => cases t; exact ⟨_, rfl, r⟩
theorem two_val {d e : D} {vs : List V} (r : RVL C θ H [d, e] vs) : ∃ v w, vs = [v, w] ∧ RV C θ H d v ∧ RV C θ H e w := by
  cases r with | cons r t => cases t with | cons r2 t => cases t; exact ⟨_, _, rfl, r, r2⟩
theorem seq_rel (R : Rel C θ H G) {d : D} {v : V} {xs : List D} (rd : RV C θ H d v) (h : seqOf d G = some xs) : ∃ a ys, v = .ref a ∧ SqL C.K H a ys ∧ RVL C θ H xs ys := by
  cases rd with
  | ref hi => obtain ⟨ys, e, r⟩ := lstAt_rel R hi h; exact ⟨_, ys, rfl, SqL.of e, r⟩
  | kl hs r => cases h; exact ⟨_, _, rfl, hs.sql, r.rvl⟩
  | _ => cases h
theorem bools_rel : ∀ {ds : List D} {vs : List V} {bs : List Bool}, RVL C θ H ds vs → boolsOf ds = some bs → vs = bs.map V.bl
  | [], _, bs, .nil, h => by cases h; rfl
  | d :: ds, _, bs, .cons r t, h => by
    cases r with
    | p r =>
      cases r with
      | bl b =>
        have h' : (boolsOf ds).map (b :: ·) = some bs := h
        rw [Option.map_eq_some_iff] at h'
        obtain ⟨cs, h1, h2⟩ := h'
        subst h2
        rw [bools_rel t h1]; rfl
      | _ => cases h
    | _ => cases h
theorem ints_rel : ∀ {ds : List D} {vs : List V} {bs : List Int}, RVL C θ H ds vs → intsOf ds = some bs → vs = bs.map V.int
  | [], _, bs, .nil, h => by cases h; rfl
  | d :: ds, _, bs, .cons r t, h => by
    cases r with
    | p r =>
      cases r with
      | int b =>
        have h' : (intsOf ds).map (b :: ·) = some bs := h
        rw [Option.map_eq_some_iff] at h'
        obtain ⟨cs, h1, h2⟩ := h'
        subst h2
        rw [ints_rel t h1]; rfl
      | _ => cases h
    | _ => cases h

theorem cl_abs : ClD C fAbs (fun xs H Q => ∃ i, xs = [.int i] ∧ Q (.int (if i < 0 then -i else i)) H) := by
  intro θ G H ds vs Q E R rv h
  unfold fAbs at h
  split at h
  · obtain ⟨v, e, r⟩ := one_val rv
    cases r with | p r => cases r; exact ⟨_, e, same_val R (.p (.int _)) h⟩
  · exact h.elim
theorem cl_int : ClD C fInt (fun xs H Q => (∃ i, xs = [.int i] ∧ Q (.int i) H) ∨ ∃ k, xs = [.bl k] ∧ Q (.int (if k then 1 else 0)) H) := by
  intro θ G H ds vs Q E R rv h
  unfold fInt at h
  split at h
  · obtain ⟨v, e, r⟩ := one_val rv
    cases r with | p r => cases r; exact .inl ⟨_, e, same_val R (.p (.int _)) h⟩
  · obtain ⟨v, e, r⟩ := one_val rv
    cases r with | p r => cases r; exact .inr ⟨_, e, same_val R (.p (.int _)) h⟩
  · exact h.elim
theorem cl_min : ClD C fMin (fun xs H Q => ∃ i j, xs = [.int i, .int j] ∧ Q (.int (if j < i then j else i)) H) := by
  intro θ G H ds vs Q E R rv h
  unfold fMin at h
  split at h
  · obtain ⟨v, w, e, r, r2⟩ := two_val rv
    cases r with | p r => cases r; cases r2 with | p r2 => cases r2; exact ⟨_, _, e, same_val R (.p (.int _)) h⟩
  · exact h.elim
theorem cl_max : ClD C fMax (fun xs H Q => ∃ i j, xs = [.int i, .int j] ∧ Q (.int (if j > i then j else i)) H) := by
  intro θ G H ds vs Q E R rv h
  unfold fMax at h
  split at h
  · obtain ⟨v, w, e, r, r2⟩ := two_val rv
    cases r with | p r => cases r; cases r2 with | p r2 => cases r2; exact ⟨_, _, e, same_val R (.p (.int _)) h⟩
  · exact h.elim
theorem cl_tuple : ClD C fTuple (fun xs H Q => ∃ p ys, xs = [.ref p] ∧ ((SqL C.K H p ys ∧ ∀ l, H l = none → Q (.ref l) (L2.upd H l (.tup ys))) ∨ (SqT C.K H p ys ∧ Q (.ref p) H))) := by
  intro θ G H ds vs Q E R rv h
  unfold fTuple at h
  split at h
  · rename_i d
    obtain ⟨v, e, r⟩ := one_val rv
    cases q : seqOf d G with
    | some xs =>
      rw [q] at h
      obtain ⟨a, ys, e2, hs, rl⟩ := seq_rel R r q
      exact ⟨a, ys, by rw [e, e2], .inl ⟨hs, fun p hp => new_tup R rl hp h⟩⟩
    | none =>
      rw [q] at h
      cases q2 : itemsOf d with
      | none => rw [q2] at h; exact h.elim
      | some xs =>
        rw [q2] at h
        obtain ⟨a, ys, e2, hs, rl⟩ := items_rel q2 r
        exact ⟨a, ys, by rw [e, e2], .inr ⟨hs, same_val R (mkTup_rel hs rl) h⟩⟩
  · exact h.elim
theorem cl_list : ClD C fList (fun xs H Q => ∃ p ys, xs = [.ref p] ∧ (SqL C.K H p ys ∨ SqT C.K H p ys) ∧ ∀ l, H l = none → Q (.ref l) (L2.upd H l (.lst ys))) := by
  intro θ G H ds vs Q E R rv h
  unfold fList at h
  split at h
  · rename_i d
    obtain ⟨v, e, r⟩ := one_val rv
    cases q : seqOf d G with
    | some xs =>
      rw [q] at h
      obtain ⟨a, ys, e2, hs, rl⟩ := seq_rel R r q
      exact ⟨a, ys, by rw [e, e2], .inl hs, fun p hp => new_lst R rl hp h⟩
    | none =>
      rw [q] at h
      cases q2 : itemsOf d with
      | none => rw [q2] at h; exact h.elim
      | some xs =>
        rw [q2] at h
        obtain ⟨a, ys, e2, hs, rl⟩ := items_rel q2 r
        exact ⟨a, ys, by rw [e, e2], .inr hs, fun p hp => new_lst R rl hp h⟩
  · exact h.elim
theorem cl_all : ClD C fAll (rAll C.K) := by
  intro θ G H ds vs Q E R rv h
  unfold fAll at h
  split at h
  · rename_i d
    obtain ⟨v, e, r⟩ := one_val rv
    cases q : (seqOf d G).bind boolsOf with
    | none => rw [q] at h; exact h.elim
    | some bs =>
      rw [q] at h
      rw [Option.bind_eq_some_iff] at q
      obtain ⟨xs, q1, q2⟩ := q
      obtain ⟨a, ys, e2, hs, rl⟩ := seq_rel R r q1
      exact ⟨a, bs, by rw [e, e2], by rw [← bools_rel rl q2]; exact hs, same_val R (.p (.bl _)) h⟩
  · exact h.elim
theorem cl_any : ClD C fAny (rAny C.K) := by
  intro θ G H ds vs Q E R rv h
  unfold fAny at h
  split at h
  · rename_i d
    obtain ⟨v, e, r⟩ := one_val rv
    cases q : (seqOf d G).bind boolsOf with
    | none => rw [q] at h; exact h.elim
    | some bs =>
      rw [q] at h
      rw [Option.bind_eq_some_iff] at q
      obtain ⟨xs, q1, q2⟩ := q
      obtain ⟨a, ys, e2, hs, rl⟩ := seq_rel R r q1
      exact ⟨a, bs, by rw [e, e2], by rw [← bools_rel rl q2]; exact hs, same_val R (.p (.bl _)) h⟩
  · exact h.elim
theorem cl_sum : ClD C fSum (rSum C.K) := by
  intro θ G H ds vs Q E R rv h
  unfold fSum at h
  split at h
  · rename_i d
    obtain ⟨v, e, r⟩ := one_val rv
    cases q : (seqOf d G).bind intsOf with
    | none => rw [q] at h; exact h.elim
    | some bs =>
      rw [q] at h
      rw [Option.bind_eq_some_iff] at q
      obtain ⟨xs, q1, q2⟩ := q
      obtain ⟨a, ys, e2, hs, rl⟩ := seq_rel R r q1
      exact ⟨a, bs, by rw [e, e2], by rw [← ints_rel rl q2]; exact hs, same_val R (.p (.int _)) h⟩
  · exact h.elim
theorem cl_str : ClD C fStr (fun xs H Q => ∃ i, xs = [.int i] ∧ i.natAbs.log2 < 1920 ∧ Q (.str (toString i)) H) := by
  intro θ G H ds vs Q E R rv h
  unfold fStr at h
  split at h
  · split at h
    · rename_i hz
      obtain ⟨v, e, r⟩ := one_val rv
      cases r with | p r => cases r; exact ⟨_, e, hz, same_val R (.p (.str _)) h⟩
    · exact h.elim
  · exact h.elim
/-! repr of a list or a tuple of data -/
def rRepr (K : PySem.W.Frag) : ClR := fun xs H Q => ∃ a d, xs = [.ref a] ∧ Dp K H (.ref a) d ∧ d.showable = true ∧ d.hasDict = false ∧ d.depth ≤ 64 ∧ d.shown.length ≤ sizeLine ∧ Q (.str d.shown) H
theorem call_reprD (hG : X.A.guards = some []) (hu : X.A.units + 65 < cLine) : CallR X (.builtin "repr") (rRepr X.K) := by
  intro pins s σ H xs us Q I r h
  obtain ⟨a, d, rfl, hd, h1, h2, h3, h4, q⟩ := h
  obtain ⟨u, rfl, ru⟩ := vals1 r
  obtain ⟨as, rr⟩ := Dp.reads I d _ u hd ru
  obtain rfl : u = .ref a := ru
  exact repr_of_reads' rr h1 (fun e => by rw [h2] at e; cases e) hG (by omega) (fun _ _ e => e) (fun h' t tk k => ⟨.str d.shown, H, I.kept (t' := tk) k, ⟨t, rfl⟩, q⟩) h4
theorem cl_repr : ClD C fRepr (rRepr C.K) := by
  intro θ G H ds vs Q E R rv h
  unfold fRepr at h
  split at h
  · rename_i d
    obtain ⟨v, e, r⟩ := one_val rv
    cases q : snap 64 G d with
    | none => rw [q] at h; exact h.elim
    | some y =>
      rw [q] at h
      simp only at h
      cases q2 : seqData y with
      | none => rw [q2] at h; exact h.elim
      | some ys =>
        rw [q2] at h
        simp only at h
        split at h
        · rename_i hz
          have hd := dp_of R _ _ _ _ r q
          obtain ⟨p, xs, e2, _⟩ := seq_dp q2 hd
          subst e2
          exact ⟨p, y, e, hd, hz.1, hz.2.1, hz.2.2.1, hz.2.2.2, same_val R (.p (.str _)) h⟩
        · exact h.elim
  · exact h.elim
/-! isinstance(x, T), T a built-in type -/
theorem ty_rel (R : Rel C θ H G) {d : D} {v : V} {n : String} (rd : RV C θ H d v) (h : tyName G d = some n) : TyX C.K H v (.type n) := by
  have tup : ∀ {a : Addr} {xs : List V}, SqT C.K H a xs → TyX C.K H (.ref a) (.type "tuple") := fun hs => by
    rcases hs with (e | ⟨o, e⟩) | ⟨o, _, _, e, hc, _⟩
    · exact .base (.tup e)
    · exact .fTuple e
    · exact .kTuple e hc
  cases rd with
  | p r =>
    cases r with
    | non => cases h; exact .base .non
    | bl b => cases h; exact .base (.bl b)
    | int i => cases h; exact .base (.int i)
    | str x => cases h; exact .base (.str x)
    | tup hs _ => cases h; exact tup hs
  | mt hs _ => cases h; exact tup hs
  | kl hs _ =>
    cases h
    rcases hs with ⟨o, e⟩ | ⟨o, _, _, e, hc, _⟩
    · exact .base (.frz e)
    · exact .kList e hc
  | @ref i a hi =>
    have h' : (match G[i]? with | some (.lst _) => some "list" | _ => none) = some n := h
    cases q : G[i]? with
    | none => rw [q] at h'; cases h'
    | some o =>
      rw [q] at h'
      have ro := R.obj i o a q hi
      cases o with
      | lst xs => cases h'; obtain ⟨ys, e, _⟩ := ro; exact .base (.lst e)
      | _ => cases h'
  | _ => cases h
end
end Ev
set_option Elab.async false
set_option linter.all false
set_option maxRecDepth 100000
/-! Ev10: isinstance, displays, sorted, methods, stores. -/
namespace Ev
open PySem PySem.Spec PyProof.Rows L2

/-! ### isinstance(x, T) -/
theorem kit_all : (["NoneType", "bool", "int", "str", "tuple", "list", "dict"].all fun a => ["bool", "int", "str", "tuple", "list", "dict"].all fun b => decide (kitB a b = some (a == b || (a == "bool" && b == "int")))) = true := by decide +kernel
theorem isTy_kit {K : PySem.W.Frag} {a b : String} {k : Bool} (h : isTy a b = some k) : PySem.W.kitOne K (.type a) (.type b) = some k := by
  unfold isTy at h
  split at h
  · rename_i hh
    rw [Bool.and_eq_true, List.contains_iff_mem, List.contains_iff_mem] at hh
    cases h
    have := List.all_eq_true.mp (List.all_eq_true.mp kit_all a hh.1) b hh.2
    exact kit_ty (of_decide_eq_true this)
  · cases h
theorem cl_isi {C : Cf} : ClD C fIsi (rIsi C.K) := by
  intro θ G H ds vs Q E R rv h
  unfold fIsi at h
  split at h
  · rename_i d T
    cases q : (tyName G d).bind fun a => isTy a T with
    | none => rw [q] at h; exact h.elim
    | some b =>
      rw [q] at h
      rw [Option.bind_eq_some_iff] at q
      obtain ⟨n, q1, q2⟩ := q
      obtain ⟨v, w, e, r1, r2⟩ := two_val rv
      cases r2
      exact ⟨v, .ty T, .type n, .type T, b, e, .ty T, ty_rel R r1 q1, isTy_kit q2, same_val R (.p (.bl b)) h⟩
  · exact h.elim
section
variable {X : Cx} {fa : Nat → Option Addr} {W : WX} {a b c o e : Expr} {ma mb mc mo : DE} {es : List Expr} {ms : DA} {pos : Pos}
theorem se_ty {x : Str} {T : String} (hg : Gl X x) (hm : X.mg x = none) (hv : bootBuiltins x = some (.type T)) (hn : x ≠ "__name__" := by decide) (hd : (x == ("__debug__" : Str)) = false := by decide) : SE X fa W (.Name x pos) (eC (.ty T)) :=
  se_const (pe_bltn (v := .ty T) hg hm hv rfl hn hd) fun _ _ => .ty

/-! ### (a, b, ..), [a, b, ..] -/
def eTup (as : DA) : DE := fun ρ G => (as ρ G).bind fun ds G => if ds.length ≤ sizeLine then .ok (mkTup ds) G else .stuck
def eLst (as : DA) : DE := fun ρ G => (as ρ G).bind fun ds G => if ds.length ≤ sizeLine then newL ds G else .stuck
theorem se_tup {k : Nat} (h : SA X fa W es ms) : SE X fa W (.Tuple es k pos) (eTup ms) := by
  refine wkE (pe_tup h) fun σ H Q ⟨ρ, θ, G, R, e, h⟩ => ?_
  refine runA R e h fun ds G1 θ1 H1 vs st1 R1 e1 rv h1 => ?_
  by_cases hz : ds.length ≤ sizeLine
  · rw [if_pos hz] at h1
    exact ⟨by rw [← rv.length]; exact hz, fun p hp => new_tup R1 rv hp h1⟩
  · rw [if_neg hz] at h1; exact h1.elim
theorem se_lst (h : SA X fa W es ms) : SE X fa W (.List es pos) (eLst ms) := by
  refine wkE (pe_lst h) fun σ H Q ⟨ρ, θ, G, R, e, h⟩ => ?_
  refine runA R e h fun ds G1 θ1 H1 vs st1 R1 e1 rv h1 => ?_
  by_cases hz : ds.length ≤ sizeLine
  · rw [if_pos hz] at h1
    exact ⟨by rw [← rv.length]; exact hz, fun p hp => new_lst R1 rv hp h1⟩
  · rw [if_neg hz] at h1; exact h1.elim

/-! ### methods of built-in types -/
/-- the value's type, and that it has no attributes of its own -/
def TyIn (X : Cx) (T : String) (x : V) (H : Hp) : Prop := ∀ (pins : List (Addr × Obj)) (s : Shared) (σ : L2.St) (v : Value), Inv X pins σ H s → RelV x v → s.TypeIs v T ∧ ∀ a, v = .ref a → ∃ ob, s.heap.get? a = some ob ∧ ob.dict = none
def tM0 (X : Cx) (T : String) (r : V → List V → Hp → VK → Prop) (to : TE) : TE := fun σ H Q => to σ H fun x H1 => TyIn X T x H1 ∧ r x [] H1 Q
def tM (X : Cx) (T : String) (r : V → List V → Hp → VK → Prop) (to : TE) (t : TA) : TE := fun σ H Q => to σ H fun x H1 => TyIn X T x H1 ∧ t σ H1 fun xs H2 => r x xs H2 Q
theorem pe_mx0 {to : TE} {name : Str} {apos cpos : Pos} {T id : String} {r : V → List V → Hp → VK → Prop} (pa : PlainAttrs T) (slot : Slot T name id) (hty : typeOf (.builtin id) = pure (.type "method_descriptor")) (hm : MtR X id r) (ho : PE X o to)
    (hbase : attributeBase o name X.env (eval o X.env) = eval o X.env := by rfl) (hline : (apos.endLine == cpos.line) = true := by rfl) : PE X (.Call (.Attribute o name apos) [] [] cpos) (tM0 X T r to) :=
  ⟨fun pins s σ H Q I h => wpAny_Call_method0_late hbase hline (thn (ho.run pins s σ H _ I h) fun v s1 ⟨x, H1, I1, r1, ty, q1⟩ => by
    obtain ⟨h1, h2⟩ := ty pins s1 σ v I1 r1
    exact ⟨T, id, pa, slot, hty, h1, h2, Calls.callWith_builtin rfl (PySem.evalArgs_none (hm pins s1 σ H1 x [] v [] Q I1 r1 .nil q1))⟩)⟩
theorem pe_mx {to : TE} {t : TA} {name : Str} {apos cpos : Pos} {T id : String} {r : V → List V → Hp → VK → Prop} (pa : PlainAttrs T) (slot : Slot T name id) (hty : typeOf (.builtin id) = pure (.type "method_descriptor")) (hm : MtR X id r) (ho : PE X o to) (ha : PA X (e :: es) t)
    (hbase : attributeBase o name X.env (eval o X.env) = eval o X.env := by rfl)
    (hfew : ((backTo cpos (starEach (e :: es) X.env)).all (fun x => !x.1) && (backToKw cpos (keywordEach [] X.env)).all (fun x => x.1.isSome) && decide ((e :: es).length + ([] : List Keyword).length + (if ([] : List Keyword).isEmpty then 0 else 1) < 30)) = true := by rfl)
    (hline : (apos.endLine == cpos.line) = true := by rfl) (hs : starEach (e :: es) X.env = (false, eval e X.env) :: starEach es X.env := by rfl) (hpl : (backTo cpos (starEach es X.env)).any (·.1) = false := by rfl) :
    PE X (.Call (.Attribute o name apos) (e :: es) [] cpos) (tM X T r to t) :=
  ⟨fun pins s σ H Q I h => wpAny_Call_method_late hbase hfew hline rfl (thn (ho.run pins s σ H _ I h) fun v s1 ⟨x, H1, I1, r1, ty, q1⟩ => by
    obtain ⟨h1, h2⟩ := ty pins s1 σ v I1 r1
    refine ⟨T, id, pa, slot, hty, h1, h2, ?_⟩
    have hA := ha.run cpos pins s1 σ H1 _ I1 q1
    rw [hs] at hA ⊢
    refine Calls.callWith_builtin (by show (false || (backTo cpos (starEach es X.env)).any (·.1)) = false; rw [hpl]; rfl) (Calls.evalArgs_plain (thn hA fun us s2 ⟨vs, H2, I2, r2, q2⟩ => ?_))
    exact hm pins s2 σ H2 x vs v us Q I2 r1 r2 q2)⟩
def tyD (T : String) (d : D) (G : GH) : Bool := match d with
  | .p (.str _) => T == "str"
  | .ref i => (match G[i]? with | some (.lst _) => T == "list" | some (.dict _) => T == "dict" | _ => false)
  | _ => false
theorem ty_in {θ : List Addr} {H : Hp} {G : GH} {T : String} {d : D} {v : V} (R : Rel (cf X fa) θ H G) (r : RV (cf X fa) θ H d v) (h : tyD T d G = true) : TyIn X T v H := by
  unfold tyD at h
  split at h
  · cases r with
    | p r =>
      cases r
      cases (beq_iff_eq.mp h)
      intro pins s σ v I rv
      obtain ⟨t, rfl⟩ := rv
      exact ⟨typeIs_str s _ t, fun _ e => nomatch e⟩
  · rename_i i
    cases r with
    | @ref i a hi =>
      cases q : G[i]? with
      | none => rw [q] at h; cases h
      | some o =>
        rw [q] at h
        have ro := R.obj i o a q hi
        cases o with
        | lst ds =>
          cases (beq_iff_eq.mp h)
          obtain ⟨xs, e, _⟩ := ro
          intro pins s σ v I rv
          cases rv
          obtain ⟨z, its, n, r, hl, e⟩ := I.lstM e
          exact ⟨⟨_, e, rfl⟩, fun b eb => by cases eb; exact ⟨_, e, rfl⟩⟩
        | dict kvs =>
          cases (beq_iff_eq.mp h)
          intro pins s σ v I rv
          cases rv
          have z : ∃ o, s.heap.get? a = some o ∧ o.ExactDict := by
            rcases ro with ⟨xs, e, _⟩ | ⟨xs, e, _⟩
            · obtain ⟨_, _, _, _, o, _, _, e, ex, _⟩ := I.hok a _ e
              exact ⟨o, e, ex⟩
            · obtain ⟨⟨_, o, _, _, _, e, ex, _⟩, _⟩ := I.hok a _ e
              exact ⟨o, e, ex⟩
          obtain ⟨o, e, ex⟩ := z
          exact ⟨⟨o, e, ex.1⟩, fun b eb => by cases eb; exact ⟨o, e, ex.2.1⟩⟩
        | inst _ _ => cases h
        | exc _ _ => cases h
  · cases h
abbrev OpM := D → List D → GH → Res D
def MtD (C : Cf) (f : OpM) (r : V → List V → Hp → VK → Prop) : Prop := ∀ θ G H d v ds vs Q (E : XK), Rel C θ H G → RV C θ H d v → RVL C θ H ds vs → PostG C θ H (f d ds G) (fun d' _ θ' H' => ∀ u, RV C θ' H' d' u → Q u H') E → r v vs H Q
def eM0 (T : String) (f : OpM) (o : DE) : DE := fun ρ G => (o ρ G).bind fun d G => if tyD T d G = true then f d [] G else .stuck
def eM (T : String) (f : OpM) (o : DE) (as : DA) : DE := fun ρ G => (o ρ G).bind fun d G => if tyD T d G = true then (as ρ G).bind fun ds G => f d ds G else .stuck
theorem se_m0 {name : Str} {apos cpos : Pos} {T id : String} {r : V → List V → Hp → VK → Prop} {f : OpM} (pa : PlainAttrs T) (slot : Slot T name id) (hty : typeOf (.builtin id) = pure (.type "method_descriptor")) (hm : MtR X id r) (hf : MtD (cf X fa) f r) (ho : SE X fa W o mo)
    (hbase : attributeBase o name X.env (eval o X.env) = eval o X.env := by rfl) (hline : (apos.endLine == cpos.line) = true := by rfl) : SE X fa W (.Call (.Attribute o name apos) [] [] cpos) (eM0 T f mo) := by
  refine wkE (pe_mx0 pa slot hty hm ho hbase hline) fun σ H Q ⟨ρ, θ, G, R, e, h⟩ => ?_
  refine runE R e h fun d G1 θ1 H1 v st1 R1 e1 rv h1 => ?_
  by_cases ht : tyD T d G1 = true
  · rw [if_pos ht] at h1
    exact ⟨ty_in R1 rv ht, hf θ1 G1 H1 d v [] [] Q _ R1 rv .nil h1⟩
  · rw [if_neg ht] at h1; exact h1.elim
theorem se_m {name : Str} {apos cpos : Pos} {T id : String} {r : V → List V → Hp → VK → Prop} {f : OpM} (pa : PlainAttrs T) (slot : Slot T name id) (hty : typeOf (.builtin id) = pure (.type "method_descriptor")) (hm : MtR X id r) (hf : MtD (cf X fa) f r) (ho : SE X fa W o mo) (ha : SA X fa W (e :: es) ms)
    (hbase : attributeBase o name X.env (eval o X.env) = eval o X.env := by rfl)
    (hfew : ((backTo cpos (starEach (e :: es) X.env)).all (fun x => !x.1) && (backToKw cpos (keywordEach [] X.env)).all (fun x => x.1.isSome) && decide ((e :: es).length + ([] : List Keyword).length + (if ([] : List Keyword).isEmpty then 0 else 1) < 30)) = true := by rfl)
    (hline : (apos.endLine == cpos.line) = true := by rfl) (hs : starEach (e :: es) X.env = (false, eval e X.env) :: starEach es X.env := by rfl) (hpl : (backTo cpos (starEach es X.env)).any (·.1) = false := by rfl) :
    SE X fa W (.Call (.Attribute o name apos) (e :: es) [] cpos) (eM T f mo ms) := by
  refine wkE (pe_mx pa slot hty hm ho ha hbase hfew hline hs hpl) fun σ H Q ⟨ρ, θ, G, R, e, h⟩ => ?_
  refine runE R e h fun d G1 θ1 H1 v st1 R1 e1 rv h1 => ?_
  by_cases ht : tyD T d G1 = true
  · rw [if_pos ht] at h1
    refine ⟨ty_in R1 rv ht, runA R1 e1 h1 fun ds G2 θ2 H2 vs st2 R2 e2 rvs h2 => ?_⟩
    exact hf θ2 G2 H2 d v ds vs Q _ R2 (rv.step R1 st2) rvs h2
  · rw [if_neg ht] at h1; exact h1.elim
end
/-! lists -/
def setL (i : Nat) (ds : List D) (G : GH) : GH := G.set i (.lst ds)
def mAppend : OpM := fun d as G => match d, as with
  | .ref i, [x] => (match lstAt G i with | some ds => if ds.length < sizeLine then .ok (.p .none) (setL i (ds ++ [x]) G) else .stuck | none => .stuck)
  | _, _ => .stuck
def mExtend : OpM := fun d as G => match d, as with
  | .ref i, [.ref j] => (match lstAt G i, lstAt G j with | some ds, some es => if ds.length + es.length ≤ sizeLine then .ok (.p .none) (setL i (ds ++ es) G) else .stuck | _, _ => .stuck)
  | _, _ => .stuck
def mPop : OpM := fun d as G => match d, as with
  | .ref i, [] => (match lstAt G i with | some ds => (match ds[ds.length - 1]? with | some x => .ok x (setL i ds.dropLast G) | none => .stuck) | none => .stuck)
  | _, _ => .stuck
def mInsert : OpM := fun d as G => match d, as with
  | .ref i, [.p (.int k), x] => (match lstAt G i with | some ds => if ds.length < sizeLine ∧ 0 ≤ k ∧ k < 2 ^ 63 then .ok (.p .none) (setL i (ds.take k.toNat ++ [x] ++ ds.drop k.toNat) G) else .stuck | none => .stuck)
  | _, _ => .stuck
section
variable {X : Cx} {C : Cf} {θ : List Addr} {H : Hp} {G : GH}
theorem put_lst {i : Nat} {a : Addr} {ds : List D} {xs : List V} {d : D} {v : V} {Q : VK} {E : XK} (R : Rel C θ H G) (hi : θ[i]? = some a) (rl : RVL C θ H ds xs) (rd : RV C θ H d v) (h : PostG C θ H (.ok d (setL i ds G)) (fun d' _ θ' H' => ∀ u, RV C θ' H' d' u → Q u H') E) : Q v (L2.upd H a (.lst xs)) := by
  have ha := List.mem_of_getElem? hi
  obtain ⟨R2, st⟩ := R.write (o := .lst ds) (u := .lst xs) hi tf_lst ⟨xs, upd_same, rl.upd R ha⟩
  exact h _ _ st R2 v (rd.upd R ha)
theorem mt_app : MtR X "list.append" rAppend := mt_append
theorem mt_ext : MtR X "list.extend" rExtend := mt_extend
theorem mt_pp : MtR X "list.pop" rPop := mt_pop
theorem md_append : MtD C mAppend rAppend := by
  intro θ G H d v ds vs Q E R rd rv h
  unfold mAppend at h
  split at h
  · rename_i i x
    cases q : lstAt G i with
    | none => rw [q] at h; exact h.elim
    | some es =>
      rw [q] at h
      simp only at h
      split at h
      · rename_i hz
        cases rd with
        | ref hi =>
          obtain ⟨u, e, ru⟩ := one_val rv
          obtain ⟨xs, ex, rl⟩ := lstAt_rel R hi q
          exact ⟨_, xs, u, rfl, e, ex, by rw [← rl.length]; exact hz, put_lst R hi (rl.append (.cons ru .nil)) (.p .non) h⟩
      · exact h.elim
  · exact h.elim
theorem md_extend : MtD C mExtend rExtend := by
  intro θ G H d v ds vs Q E R rd rv h
  unfold mExtend at h
  split at h
  · rename_i i j
    cases q : lstAt G i with
    | none => rw [q] at h; exact h.elim
    | some ds1 =>
      cases q2 : lstAt G j with
      | none => rw [q, q2] at h; exact h.elim
      | some ds2 =>
        rw [q, q2] at h
        simp only at h
        split at h
        · rename_i hz
          cases rd with
          | ref hi =>
            obtain ⟨u, e, ru⟩ := one_val rv
            cases ru with
            | ref hj =>
              obtain ⟨xs, ex, rl⟩ := lstAt_rel R hi q
              obtain ⟨ys, ey, rl2⟩ := lstAt_rel R hj q2
              exact ⟨_, _, xs, ys, rfl, e, ex, ey, by rw [← rl.length, ← rl2.length]; exact hz, put_lst R hi (rl.append rl2) (.p .non) h⟩
        · exact h.elim
  · exact h.elim
theorem RVL.dropLast {ds : List D} {vs : List V} (r : RVL C θ H ds vs) : RVL C θ H ds.dropLast vs.dropLast := by
  rw [List.dropLast_eq_take, List.dropLast_eq_take, r.length]
  exact r.take _
theorem md_pop : MtD C mPop rPop := by
  intro θ G H d v ds vs Q E R rd rv h
  unfold mPop at h
  split at h
  · rename_i i
    cases q : lstAt G i with
    | none => rw [q] at h; exact h.elim
    | some es =>
      rw [q] at h
      simp only at h
      cases q2 : es[es.length - 1]? with
      | none => rw [q2] at h; exact h.elim
      | some x =>
        rw [q2] at h
        cases rd with
        | ref hi =>
          cases rv
          obtain ⟨xs, ex, rl⟩ := lstAt_rel R hi q
          obtain ⟨u, hu, ru⟩ := rl.get q2
          exact ⟨_, xs, u, rfl, rfl, ex, by rw [← rl.length]; exact hu, put_lst R hi rl.dropLast ru h⟩
  · exact h.elim
theorem md_insert : MtD C mInsert (fun x vs H Q => ∃ (l : Addr) (xs : List V) (i : Int) (y : V), x = .ref l ∧ vs = [.int i, y] ∧ H l = some (.lst xs) ∧ xs.length < sizeLine ∧ 0 ≤ i ∧ i < 2 ^ 63 ∧ Q .non (L2.upd H l (.lst (xs.take i.toNat ++ [y] ++ xs.drop i.toNat)))) := by
  intro θ G H d v ds vs Q E R rd rv h
  unfold mInsert at h
  split at h
  · rename_i i k x
    cases q : lstAt G i with
    | none => rw [q] at h; exact h.elim
    | some es =>
      rw [q] at h
      simp only at h
      split at h
      · rename_i hz
        cases rd with
        | ref hi =>
          obtain ⟨u1, u2, e, r1, r2⟩ := two_val rv
          cases r1 with
          | p r1 =>
            cases r1
            obtain ⟨xs, ex, rl⟩ := lstAt_rel R hi q
            exact ⟨_, xs, _, u2, rfl, e, ex, by rw [← rl.length]; exact hz.1, hz.2.1, hz.2.2, put_lst R hi (((rl.take _).append (.cons r2 .nil)).append (rl.drop _)) (.p .non) h⟩
      · exact h.elim
  · exact h.elim
end

/-! ### stores -/
def setIx (o i x : D) (G : GH) : Option GH := match o, i with
  | .ref l, .p (.int k) => (lstAt G l).bind fun ds => (ixN ds.length k).map fun j => setL l (ds.set j x) G
  | _, _ => none
/-- o[i] = e -/
def sStore (o i e : DE) (st : D → D → D → GH → Option GH) : DS := fun ρ G => (e ρ G).bindS ρ fun d G => (o ρ G).bindS ρ fun x G => (i ρ G).bindS ρ fun y G => match st x y d G with | some G => .nx ρ G | none => .stuck
def SetD (C : Cf) (f : D → D → D → GH → Option GH) (r : TSet) : Prop := ∀ θ G H o v i w d u G' (Q : Hp → Prop), Rel C θ H G → RV C θ H o v → RV C θ H i w → RV C θ H d u → f o i d G = some G' → (∀ θ' H', Step θ H θ' H' → Rel C θ' H' G' → Q H') → r v w u H Q
section
variable {X : Cx} {C : Cf}
theorem sd_lst : SetD C setIx rSetL := by
  intro θ G H o v i w d u G' Q R ro ri rd h q
  unfold setIx at h
  split at h
  · rename_i l k
    rw [Option.bind_eq_some_iff] at h
    obtain ⟨ds, h1, h2⟩ := h
    rw [Option.map_eq_some_iff] at h2
    obtain ⟨j, h2, h3⟩ := h2
    subst h3
    cases ro with
    | ref hi =>
      cases ri with
      | p ri =>
        cases ri
        obtain ⟨xs, ex, rl⟩ := lstAt_rel R hi h1
        have ha := List.mem_of_getElem? hi
        refine ⟨_, xs, k, j, rfl, rfl, ex, by rw [← rl.length]; exact h2, ?_⟩
        obtain ⟨R2, st⟩ := R.write (o := .lst (ds.set j d)) (u := .lst (xs.set j u)) hi tf_lst ⟨_, upd_same, (rl.set j rd).upd R ha⟩
        exact q _ _ st R2
  · cases h
end
section
variable {X : Cx} {fa : Nat → Option Addr} {W : WX} {o i e : Expr} {mo mi me : DE} {pos : Pos}
theorem ss_store {r : TSet} {f : D → D → D → GH → Option GH} {tpos : Pos} (he : SE X fa W e me) (ho : SE X fa W o mo) (hi : SE X fa W i mi) (hs : PSet X r) (hf : SetD (cf X fa) f r)
    (ha : ∀ v, assign (.Subscript o i tpos) X.env v = (do
      let ov ← holding [v] (eval o X.env)
      let iv ← holding [v, ov] (eval i X.env)
      standAt tpos
      holding [v, ov, iv] (setItem ov iv v)
      release [v, ov, iv] []) := by intro _; rfl)
    (h1 : swapsWithSole [.Subscript o i tpos] e pos.line X.env = pure false := by rfl) (h2 : swappedStores [.Subscript o i tpos] e X.env = pure none := by rfl)
    (h3 : (assignEach [.Subscript o i tpos] X.env).map (·.2) = [assign (.Subscript o i tpos) X.env] := by rfl) : SS X fa W (.Assign [.Subscript o i tpos] e pos) (sStore mo mi me f) := by
  refine wkS (ps_asg he (L2.pg_sub ho hi hs ha) h1 h2 h3) fun D σ H ⟨ρ, θ, G, R, e, h⟩ => ?_
  refine runSE R e h fun d G1 θ1 H1 u st1 R1 e1 ru h1 => ?_
  refine runSE R1 e1 h1 fun x G2 θ2 H2 v st2 R2 e2 rv h2 => ?_
  refine runSE R2 e2 h2 fun y G3 θ3 H3 w st3 R3 e3 rw h3 => ?_
  cases q : f x y d G3 with
  | none => rw [q] at h3; exact h3.elim
  | some G4 =>
    rw [q] at h3
    exact hf θ3 G3 H3 x v y w d u G4 _ R3 (rv.step R2 st3) rw ((ru.step R1 st2).step R2 st3) q fun θ4 H4 st4 R4 => h3 θ4 H4 σ st4 R4 (e3.step R3 st4)
def pgGet : V → V → Hp → VK → Prop := fun o i H Q => ∃ p xs k v, o = .ref p ∧ i = .int k ∧ 0 ≤ k ∧ k < 2 ^ 63 ∧ SqL X.K H p xs ∧ xs[k.toNat]? = some v ∧ Q v H
theorem pget_lst : PGet X (pgGet (X := X)) := by
  intro pins s σ H o i ov iv Q I ro ri h
  obtain ⟨p, xs, k, v, rfl, rfl, h0, h1, hs, hv, q⟩ := h
  cases ro
  obtain ⟨t, rfl⟩ := ri
  obtain ⟨its, r, pl, hz⟩ := I.list hs
  obtain ⟨u, hu, ru⟩ := r.get hv
  exact wpAny_getItem_list (x := u) pl.isList h0 h1 (by simpa using hu) ⟨v, H, I, ru, q⟩
/-- o[i] += e, whole numbers -/
def sAugI (o i e : DE) (f : Int → Int → Int) : DS := fun ρ G => (o ρ G).bindS ρ fun x G => (i ρ G).bindS ρ fun y G => match x, y with
  | .ref l, .p (.int k) => (match (lstAt G l).bind fun ds => if 0 ≤ k ∧ k < 2 ^ 63 then ds[k.toNat]? else none with
    | some (.p (.int a)) => (e ρ G).bindS ρ fun z G => (match z with
      | .p (.int b) => (match setIx x y (.p (.int (f a b))) G with | some G => .nx ρ G | none => .stuck)
      | _ => .stuck)
    | _ => .stuck)
  | _, _ => .stuck
theorem ss_augI {op : Operator} {f : Int → Int → Int} {tpos : Pos} (ho : SE X fa W o mo) (hi : SE X fa W i mi) (he : SE X fa W e me) (hp : PIp X op (ipI f))
    (ha : ∀ ov iv new, augStore i ov iv new = (do holding [new, ov, iv] (setItem ov iv new); release [new, ov, iv] []; pure .next) := by intros; rfl) : SS X fa W (.AugAssign (.Subscript o i tpos) op e pos) (sAugI mo mi me f) := by
  refine wkS (ps_augS ho hi pget_lst he hp set_list ha) fun D σ H ⟨ρ, θ, G, R, e, h⟩ => ?_
  refine runSE R e h fun x G1 θ1 H1 v st1 R1 e1 rv h1 => ?_
  refine runSE R1 e1 h1 fun y G2 θ2 H2 w st2 R2 e2 rw h2 => ?_
  split at h2
  · rename_i l k
    cases q : (lstAt G2 l).bind fun ds => if 0 ≤ k ∧ k < 2 ^ 63 then ds[k.toNat]? else none with
    | none => rw [q] at h2; exact h2.elim
    | some c =>
      rw [q] at h2
      cases c with
      | p c =>
        cases c with
        | int a =>
          simp only at h2
          rw [Option.bind_eq_some_iff] at q
          obtain ⟨ds, q1, q2⟩ := q
          split at q2
          · rename_i hk
            have rv2 := rv.step R1 st2
            cases rv2 with
            | ref hl =>
              cases rw with
              | p rw' =>
                cases rw'
                obtain ⟨xs, ex, rl⟩ := lstAt_rel R2 hl q1
                obtain ⟨u, hu, ru⟩ := rl.get q2
                cases ru with
                | p ru =>
                  cases ru
                  refine ⟨_, xs, k, _, rfl, rfl, hk.1, hk.2, SqL.of ex, hu, ?_⟩
                  refine runSE R2 e2 h2 fun z G3 θ3 H3 u3 st3 R3 e3 rz h3 => ?_
                  cases rz with
                  | p rz =>
                    cases rz with
                    | int b =>
                      simp only at h3
                      refine ⟨a, b, rfl, rfl, ?_⟩
                      cases qs : setIx (.ref l) (.p (.int k)) (.p (.int (f a b))) G3 with
                      | none => rw [qs] at h3; exact h3.elim
                      | some G4 =>
                        rw [qs] at h3
                        exact sd_lst θ3 G3 H3 _ _ _ _ _ _ G4 _ R3 (RV.ref (st3.pre1 hl)) (.p (.int k)) (.p (.int _)) qs fun θ4 H4 st4 R4 => h3 θ4 H4 σ st4 R4 (e3.step R3 st4)
                    | _ => exact h3.elim
                  | _ => exact h3.elim
          · cases q2
        | _ => exact h2.elim
      | _ => exact h2.elim
  · exact h2.elim
end
end Ev
set_option Elab.async false
set_option linter.all false
set_option maxRecDepth 100000
/-! Ev11: sorted of data. -/
namespace Ev
open PySem PySem.Spec PyProof.Rows L2
section
variable {prog : Program} {w : World} {A : Around} {E : Value → Shared → Prop} {s : Shared}
/-- the items of a tuple, taken over -/
theorem taken_tup {l : Addr} {vs : List Value} {Q : List Value → Shared → Prop} (ht : IsTup s.heap l vs.toArray) (hz : vs.length ≤ sizeLine)
    (h : Q vs { s with heap := (s.heap.push (seqObj "list" #[] 0)).update s.heap.objs.size (Obj.mapSeq (· ++ vs.toArray)) }) : wpAny (model prog w) A (collect (.ref l)) Q E s := by
  obtain ⟨o, ho, hc, n, hd⟩ := ht
  unfold collect
  refine wpAny_bind (wpAny_runValue (codeAny_builtin entry_proto_collect' ?_))
  show wpAny _ _ (do again (.builtin "list.__iadd__" ⟨[← newList [], .ref l], []⟩)) _ _ s
  refine wpAny_bind (wpAny_newList (wpAny_pure ⟨Code.quiet_builtin _ (by decide +kernel), codeAny_builtin entry_list_iadd' ?_⟩))
  show wpAny _ _ (Builtin.List.listExtendWith (.ref s.heap.objs.size) (.ref l) (.ref s.heap.objs.size)) _ _ { s with heap := s.heap.push (seqObj "list" #[] 0) }
  unfold Builtin.List.listExtendWith
  have h1 : (s.heap.push (seqObj "list" #[] 0)).get? l = some o := Heap.get?_push_of_some _ ho
  have h2 : (s.heap.push (seqObj "list" #[] 0)).get? s.heap.objs.size = some (seqObj "list" #[] 0) := Heap.get?_push_size _ rfl
  refine wpAny_bind (wpAny_typeOf (T := "tuple") ⟨o, h1, hc⟩ ?_)
  have tt : (Value.type "tuple" == Value.type "tuple") = true := rfl
  rw [if_pos (by rw [tt, Bool.or_true])]
  refine wpAny_bind (listItems_at h1 hd (wpAny_bind (listItems_at (xs := #[]) (n := 0) h2 rfl ?_)))
  rw [if_neg (by simp)]
  refine wpAny_bind (listUpdate_at (xs := #[]) (n := 0) h2 rfl (wpAny_pure ?_) (Nat.zero_le _) (by show (#[] ++ vs.toArray).size ≤ sizeLine + 1; simp only [Array.size_append, List.size_toArray, List.length_nil]; omega))
  refine wpAny_bind (wpAny_load (get?_update_seq h2 _) ?_)
  show wpAny _ _ (pure ((#[] : Array Value) ++ vs.toArray).toList) Q E _
  rw [show ((#[] : Array Value) ++ vs.toArray).toList = vs by simp]
  exact wpAny_pure h
/-- sorted(t): as sorted of the list of its items -/
theorem sorted_tup {β : Type} {R : Value → β → Prop} {enc : β → PyData} {bs : List β} {l : Addr} {vs : List Value} {Q : Value → Shared → Prop} (ht : IsTup s.heap l vs.toArray) (e : W.EachIs R vs bs) (er : W.EachIs (fun v b => ∃ as, Reads s.heap v (enc b) as) vs bs) (hal : W.AllAlike (bs.map enc)) (hk : W.Sortable (bs.map enc)) (hL : bs.length ≤ sizeLine)
    (hu : ∀ b, b ∈ bs → A.units + 2 + (enc b).depth < cLine) (h : ∀ out, out.length = bs.length → W.EachIs R out (bs.mergeSort (W.dataLe false enc)) → Q (.ref (s.heap.objs.size + 1)) { s with heap := sortedAll s.heap vs (List.toArray out) }) :
    wpAny (model prog w) A (call (.builtin "sorted") [.ref l]) Q E s := by
  have er2 : W.EachIs (fun v b => ∃ as, Reads (W.sortingHeap (W.copyHeap s.heap vs) (s.heap.objs.size + 1) vs) v (enc b) as) vs bs := er.mono fun _ _ ⟨as, r⟩ => ⟨as, PyProof.Rows.Reads.keeps (fun _ _ => W.sorting_copy_old) r⟩
  have S := W.SortsAt.data (prog := prog) (w := w) (A := A.in1.in1) (s := { s with heap := W.sortingHeap (W.copyHeap s.heap vs) (s.heap.objs.size + 1) vs }) (W.each_map (R := fun v d => ∃ as, Reads (W.sortingHeap (W.copyHeap s.heap vs) (s.heap.objs.size + 1) vs) v d as) enc er2) hal hk (W.bound_map hu)
  have hL2 : vs.length ≤ sizeLine := by rw [e.length]; exact hL
  refine call_function_entry_kw kind_sorted plain_sorted entry_sorted (args_sorted1 _) ?_
  unfold Builtin.«sorted»
  refine wpAny_bind (m := checkCount "sorted" 1 1 _) (wpAny_pure (wpAny_bind (taken_tup ht hL2 (wpAny_bind (wpAny_newList ?_ hL2)))))
  have hsz : ((s.heap.push (seqObj "list" #[] 0)).update s.heap.objs.size (Obj.mapSeq (· ++ vs.toArray))).objs.size = s.heap.objs.size + 1 := by rw [Heap.size_update, size_push']
  show wpAny _ _ _ _ _ { s with heap := W.copyHeap s.heap vs }
  rw [hsz]
  refine wpAny_bind (wpAny_holding (wpAny_call_entry_kw slot_list_sort ⟨_, W.copyHeap_at s.heap vs, rfl⟩ entry_list_sort (wpAny_mono (W.list_sort_vals (s := { s with heap := W.copyHeap s.heap vs }) (P := fun f s' => f = .done (.ret .none) ∧ Q (.ref (s.heap.objs.size + 1)) s') (W.copyHeap_at s.heap vs) S hL2 ⟨rfl, ?_⟩) (fun f s' hf => ?_) fun _ _ e => e) (args_list_sort _)))
  · exact h _ (by rw [W.sortVals_length false rfl]; exact e.length) (W.sortVals_data false e er2 hal)
  · obtain ⟨rfl, hq⟩ := hf
    exact ⟨_, rfl, wpAny_pure ⟨_, rfl, hq⟩⟩
end
def alikeB (ds : List PyData) : Bool := ds.all fun d => ds.all fun e => W.alike d e
def isRow : PyData → Bool
  | .tuple (_ :: _) => true
  | _ => false
def isAtom : PyData → Bool
  | .none => false
  | .tuple _ => false
  | _ => true
def sortB (ds : List PyData) : Bool := alikeB ds && (ds.all isRow || ds.all isAtom) && ds.all (fun d => decide (d.depth ≤ 64))
def sortDs {α : Type} (xs : List α) (ds : List PyData) : List α := ((xs.zip ds).mergeSort (W.dataLe false (·.2))).map (·.1)
def fSorted : Fn := fun as G => match as with
  | [d] => (match (match seqOf d G with | some xs => some xs | none => itemsOf d) with
    | some xs => (match allO (xs.map (snap 64 G)) with
      | some ds => if sortB ds = true then newL (sortDs xs ds) G else .stuck
      | none => .stuck)
    | none => .stuck)
  | _ => .stuck
section
variable {X : Cx} {C : Cf} {θ : List Addr} {H : Hp} {G : GH}
theorem alike_of {ds : List PyData} (h : alikeB ds = true) : W.AllAlike ds := fun d hd e he => by
  unfold alikeB at h
  exact List.all_eq_true.mp (List.all_eq_true.mp h d hd) e he
theorem sortable_of {ds : List PyData} (h : (ds.all isRow || ds.all isAtom) = true) : W.Sortable ds := by
  rw [Bool.or_eq_true] at h
  rcases h with h | h
  · refine .inl fun d hd => ?_
    have := List.all_eq_true.mp h d hd
    unfold isRow at this
    split at this
    · exact ⟨_, _, rfl⟩
    · cases this
  · refine .inr fun d hd => ?_
    have := List.all_eq_true.mp h d hd
    refine ⟨fun e => ?_, fun xs e => ?_⟩
    · rw [e] at this; cases this
    · rw [e] at this; cases this
def rSorted1 (K : PySem.W.Frag) : ClR := fun vs H Q => ∃ a xs ds, vs = [V.ref a] ∧ (SqL K H a xs ∨ SqT K H a xs) ∧ DpAll K H xs ds ∧ sortB ds = true ∧ ∀ p, H p = none → Q (.ref p) (L2.upd H p (.lst (sortDs xs ds)))
theorem each_vals {H : Hp} {h : Heap} {s : Shared} : ∀ {xs : List V} {us : List Value} {ds : List PyData} {as : List Addr}, Vals xs us → ReadsAll s.heap us ds as → W.EachIs (fun u (b : V × PyData) => RelV b.1 u) us (xs.zip ds) ∧ W.EachIs (fun u (b : V × PyData) => ∃ as, Reads s.heap u b.2 as) us (xs.zip ds)
  | _, _, _, _, .nil, .nil => ⟨.nil, .nil⟩
  | _, _, _, _, .cons r t, .cons q qs => ⟨.cons r (each_vals (H := H) (h := h) t qs).1, .cons ⟨_, q⟩ (each_vals (H := H) (h := h) t qs).2⟩
theorem vals_each : ∀ {us : List Value} {bs : List (V × PyData)}, W.EachIs (fun u (b : V × PyData) => RelV b.1 u) us bs → Vals (bs.map (·.1)) us
  | _, _, .nil => .nil
  | _, _, .cons r t => .cons r (vals_each t)
theorem len_all {K : PySem.W.Frag} : ∀ {xs : List V} {ds : List PyData}, DpAll K H xs ds → xs.length = ds.length
  | _, _, .nil => rfl
  | _, _, .cons _ t => by rw [List.length_cons, List.length_cons, len_all t]
theorem call_sorted1 (hu : X.A.units + 70 < cLine) : CallR X (.builtin "sorted") (rSorted1 X.K) := by
  intro pins s σ H vs us Q I r h
  obtain ⟨a, xs, ds, rfl, hs, hd, hb, q⟩ := h
  obtain ⟨u, rfl, ru⟩ := vals1 r
  obtain rfl : u = .ref a := ru
  unfold sortB at hb
  rw [Bool.and_eq_true, Bool.and_eq_true] at hb
  have hl := len_all hd
  have hm : (xs.zip ds).map (·.2) = ds := List.map_snd_zip (by omega)
  have hal : W.AllAlike ((xs.zip ds).map (·.2)) := by rw [hm]; exact alike_of hb.1.1
  have hk : W.Sortable ((xs.zip ds).map (·.2)) := by rw [hm]; exact sortable_of hb.1.2
  have hdep : ∀ b, b ∈ xs.zip ds → X.A.units + 2 + b.2.depth < cLine := fun b hbm => by
    have h1 : b.2 ∈ ds := (List.of_mem_zip (show (b.1, b.2) ∈ _ from hbm)).2
    have h2 := of_decide_eq_true (List.all_eq_true.mp hb.2 _ h1)
    omega
  have fin : ∀ (its : List Value), Vals xs its → its.length ≤ sizeLine → ∀ out : List Value, out.length = (xs.zip ds).length → W.EachIs (fun u (b : V × PyData) => RelV b.1 u) out ((xs.zip ds).mergeSort (W.dataLe false (·.2))) → EP X pins σ Q (.ref (s.heap.objs.size + 1)) { s with heap := sortedAll s.heap its (List.toArray out) } := fun its rv hz out ho eo => by
    obtain ⟨n, hn⟩ := sortedAll_at s.heap its out.toArray
    have rv2 := vals_each eo
    have hlen : (sortDs xs ds).length ≤ sizeLine := by
      have e1 : (sortDs xs ds).length = xs.length := by unfold sortDs; rw [List.length_map, List.length_mergeSort, List.length_zip]; omega
      rw [e1, rv.length]; exact hz
    exact ⟨.ref (s.heap.objs.size + 1), L2.upd H (s.heap.objs.size + 1) (.lst (sortDs xs ds)), I.laid (t' := s.toks) (fun b o e => sortedAll_old e) (Nat.le_succ _) ⟨hlen, out, n, rv2, hn⟩, rfl, q _ (I.hok.fresh (Nat.le_succ _))⟩
  rcases hs with hs | hs
  · obtain ⟨its, rv, pl, hz⟩ := I.list hs
    obtain ⟨as, hr⟩ := Dp.readsAll I ds xs its hd rv
    obtain ⟨e1, e2⟩ := each_vals (H := H) (h := s.heap) rv hr
    exact W.sorted_data (enc := fun b : V × PyData => b.2) pl.isList e1 e2 hal hk (by rw [List.length_zip]; have := rv.length; omega) hdep (fin its rv (by rw [← rv.length]; exact hz))
  · obtain ⟨its, rv, pl, hz⟩ := I.tuple hs
    obtain ⟨as, hr⟩ := Dp.readsAll I ds xs its hd rv
    obtain ⟨e1, e2⟩ := each_vals (H := H) (h := s.heap) rv hr
    exact sorted_tup (enc := fun b : V × PyData => b.2) pl e1 e2 hal hk (by rw [List.length_zip]; have := rv.length; omega) hdep (fin its rv (by rw [← rv.length]; exact hz))
theorem sort_rel {ds : List D} {xs : List V} {es : List PyData} (r : RVL C θ H ds xs) (hl : xs.length = es.length) : RVL C θ H (sortDs ds es) (sortDs xs es) := by
  have key : ∀ {ds : List D} {xs : List V} {es : List PyData}, RVL C θ H ds xs → xs.length = es.length → W.EachIs (fun (a : D × PyData) (b : V × PyData) => RV C θ H a.1 b.1 ∧ a.2 = b.2) (ds.zip es) (xs.zip es) := by
    intro ds xs es r hl
    induction es generalizing ds xs with
    | nil => cases r with | nil => exact .nil | cons _ _ => cases hl
    | cons e es ih =>
      cases r with
      | nil => cases hl
      | cons r1 r2 => exact .cons ⟨r1, rfl⟩ (ih r2 (Nat.succ.inj hl))
  have e := W.sort_each (r := W.dataLe false (fun a : D × PyData => a.2)) (s := W.dataLe false (fun b : V × PyData => b.2)) (key r hl) (fun p hp q hq => by
    have h1 := ((key r hl).zip p hp).2
    have h2 := ((key r hl).zip q hq).2
    show (!W.dataLt q.1.2 p.1.2) = (!W.dataLt q.2.2 p.2.2)
    rw [h1, h2])
  have back : ∀ {as : List (D × PyData)} {bs : List (V × PyData)}, W.EachIs (fun (a : D × PyData) (b : V × PyData) => RV C θ H a.1 b.1 ∧ a.2 = b.2) as bs → RVL C θ H (as.map (·.1)) (bs.map (·.1)) := by
    intro as bs h
    induction h with
    | nil => exact .nil
    | cons h _ ih => exact .cons h.1 ih
  exact back e
theorem cl_sorted : ClD C fSorted (rSorted1 C.K) := by
  intro θ G H ds vs Q E R rv h
  unfold fSorted at h
  split at h
  · rename_i d
    obtain ⟨v, e, r⟩ := one_val rv
    cases q : (match seqOf d G with | some xs => some xs | none => itemsOf d) with
    | none => rw [q] at h; exact h.elim
    | some xs =>
      rw [q] at h
      simp only at h
      cases q2 : allO (xs.map (snap 64 G)) with
      | none => rw [q2] at h; exact h.elim
      | some es =>
        rw [q2] at h
        simp only at h
        split at h
        · rename_i hb
          have hx : ∃ a ys, v = .ref a ∧ (SqL C.K H a ys ∨ SqT C.K H a ys) ∧ RVL C θ H xs ys := by
            cases q3 : seqOf d G with
            | some zs =>
              rw [q3] at q
              cases q
              obtain ⟨a, ys, e2, hs, rl⟩ := seq_rel R r q3
              exact ⟨a, ys, e2, .inl hs, rl⟩
            | none =>
              rw [q3] at q
              obtain ⟨a, ys, e2, hs, rl⟩ := items_rel q r
              exact ⟨a, ys, e2, .inr hs, rl⟩
          obtain ⟨a, ys, e2, hs, rl⟩ := hx
          have hd := dp_all (fun d v e r h => dp_of R 64 d v e r h) rl q2
          exact ⟨a, ys, es, by rw [e, e2], hs, hd, hb, fun p hp => new_lst R (sort_rel rl (len_all hd)) hp h⟩
        · exact h.elim
  · exact h.elim
end
end Ev
set_option Elab.async false
set_option linter.all false
set_option maxRecDepth 100000
/-! Ev12: dicts: keys whole numbers and texts, or tuples of these and None to a depth of eight. -/
namespace Ev
open PySem PySem.Spec PyProof.Rows L2

/-! ### a table whose keys are tuples -/
theorem keys_eq : ∀ {xs : List (NestedKey × Addr × V)} {vs : List (NestedKey × Addr × Value)}, Paired (fun x y => x.1 = y.1 ∧ x.2.1 = y.2.1 ∧ RelV x.2.2 y.2.2) xs vs → vs.map (·.1) = xs.map (·.1)
  | _, _, .nil => rfl
  | _, _, .cons h t => by rw [List.map_cons, List.map_cons, keys_eq t, h.1]
theorem paired_app {α β : Type} {R : α → β → Prop} : ∀ {as cs : List α} {bs ds : List β}, Paired R as bs → Paired R cs ds → Paired R (as ++ cs) (bs ++ ds)
  | _, _, _, _, .nil, h => h
  | _, _, _, _, .cons r t, h => .cons r (paired_app t h)
abbrev NX := NestedKey × Addr × V
def atV (xs : List NX) (k : NestedKey) : Option V := (xs.find? fun x => decide (x.1 = k)).map (·.2.2)
def stV (xs : List NX) (k : NestedKey) (a : Addr) (v : V) : List NX := if (atV xs k).isSome then xs.map (fun x => if x.1 = k then (x.1, x.2.1, v) else x) else xs ++ [(k, a, v)]
abbrev PV : List NX → List (NestedKey × Addr × Value) → Prop := Paired (fun x y => x.1 = y.1 ∧ x.2.1 = y.2.1 ∧ RelV x.2.2 y.2.2)
theorem PV.at {xs : List NX} {vs : List (NestedKey × Addr × Value)} (r : PV xs vs) (k : NestedKey) : RelO (atV xs k) ((atKey vs k).map (·.2)) := by
  induction r with
  | nil => exact True.intro
  | @cons x y xs ys h t ih =>
    unfold atV atKey at ih ⊢
    rw [List.find?_cons, List.find?_cons, ← h.1]
    by_cases e : x.1 = k
    · simp only [e, decide_true]; exact h.2.2
    · simp only [e, decide_false]; exact ih
theorem PV.st {xs : List NX} {vs : List (NestedKey × Addr × Value)} (r : PV xs vs) (k : NestedKey) (a : Addr) {v : V} {u : Value} (ru : RelV v u) : PV (stV xs k a v) (storedH vs k a u) := by
  have hs : (atV xs k).isSome = (atKey vs k).isSome := by rw [(r.at k).isSome_eq, Option.isSome_map]
  unfold stV storedH
  rw [hs]
  split
  · rename_i hq
    clear hs hq
    induction r with
    | nil => exact .nil
    | @cons x y xs ys h t ih =>
      rw [List.map_cons, List.map_cons]
      refine .cons ?_ ih
      unfold putAt
      by_cases e : x.1 = k
      · rw [if_pos e, if_pos (h.1 ▸ e)]
        exact ⟨h.1, h.2.1, ru⟩
      · rw [if_neg e, if_neg (h.1 ▸ e)]
        exact h
  · exact paired_app r (.cons ⟨rfl, rfl, ru⟩ .nil)
theorem stV_len (xs : List NX) (k : NestedKey) (a : Addr) (v : V) : (stV xs k a v).length ≤ xs.length + 1 := by
  unfold stV; split <;> simp
theorem stV_ne (xs : List NX) (k : NestedKey) (a : Addr) (v : V) : stV xs k a v ≠ [] := by
  unfold stV
  split
  · rename_i h
    intro e
    rw [List.map_eq_nil_iff] at e
    subst e
    cases h
  · simp
/-- the tuple at b is the key k -/
def NK (K : PySem.W.Frag) (H : Hp) (b : Addr) (k : NestedKey) : Prop := ∃ pd, Dp K H (.ref b) pd ∧ keyOk pd = true ∧ (nk pd).depth ≤ 8 ∧ k = nk pd
def isN (P : Program) (w : World) (H : Hp) (a : Addr) (xs : List NX) : Prop := H a = some (dN P w a xs) ∨ (xs = [] ∧ H a = some (.dK []))
def keysN (K : PySem.W.Frag) (H : Hp) (xs : List NX) : Prop := ∀ x ∈ xs, NK K H x.2.1 x.1
section
variable {X : Cx} {pins : List (Addr × Obj)} {σ : L2.St} {H : Hp} {s : Shared} {A : Around} {E : Value → Shared → Prop}
mutual
theorem nested_of (I : Inv X pins σ H s) : ∀ (d : PyData) (v : V) (u : Value), Dp X.K H v d → keyOk d = true → RelV v u → NestedIs s.heap (nk d) u
  | .none, _, _, h, _, r => by cases h; cases r; exact .none
  | .int i, _, _, h, _, r => by cases h; obtain ⟨t, rfl⟩ := r; exact .int i t
  | .str x, _, _, h, _, r => by cases h; obtain ⟨t, rfl⟩ := r; exact .text x t
  | .tuple ds, _, _, h, k, r => by
    cases h with
    | tup hs ha =>
      cases r
      obtain ⟨its, rv, ⟨o, ho, hc, n, hd⟩, _⟩ := I.tuple hs
      have := nested_all I ds _ its ha (by simpa [keyOk] using k) rv
      exact .tup ho hc hd this
  | .bool _, _, _, _, k, _ => absurd k (by simp [keyOk])
  | .list _, _, _, _, k, _ => absurd k (by simp [keyOk])
  | .dict _, _, _, _, k, _ => absurd k (by simp [keyOk])
theorem nested_all (I : Inv X pins σ H s) : ∀ (ds : List PyData) (vs : List V) (us : List Value), DpAll X.K H vs ds → keysOk ds = true → Vals vs us → NestedAll s.heap (nks ds) us
  | [], _, _, h, _, r => by cases h; cases r; exact .nil
  | d :: ds, _, _, h, k, r => by
    cases h with
    | cons h1 h2 =>
      cases r with
      | cons r1 r2 =>
        simp only [keysOk, Bool.and_eq_true] at k
        exact .cons (nested_of I d _ _ h1 k.1 r1) (nested_all I ds _ _ h2 k.2 r2)
end
theorem nk_is (I : Inv X pins σ H s) {b : Addr} {k : NestedKey} (h : NK X.K H b k) : (nestedKind X.prog X.w).is s.heap k b := by
  obtain ⟨pd, h1, h2, h3, h4⟩ := h
  subst h4
  exact ⟨nested_of I pd (.ref b) (.ref b) h1 h2 rfl, h3⟩
theorem dn_at (I : Inv X pins σ H s) {a : Addr} {xs : List NX} (h : isN X.prog X.w H a xs) (hk : keysN X.K H xs) : (a == sysModules) = false ∧ ∃ vs, PV xs vs ∧ s.heap.DictOfH (nestedKind X.prog X.w) a vs := by
  rcases h with h | ⟨rfl, h⟩
  · obtain ⟨⟨hd, o, es, ep, vs, h1, h2, h3, h4, h5, h6⟩, _⟩ := I.hok a _ h
    refine ⟨hd, vs, h4, o, es, ep, h1, h2, h3, h5, fun y hy => ?_, by rw [keys_eq h4]; exact h6⟩
    have key : ∀ {xs : List NX} {vs : List (NestedKey × Addr × Value)}, PV xs vs → (∀ x ∈ xs, NK X.K H x.2.1 x.1) → ∀ y ∈ vs, NK X.K H y.2.1 y.1 := by
      intro xs vs r
      induction r with
      | nil => intro _ y hy; cases hy
      | cons hh t ih =>
        intro hk y hy
        rcases List.mem_cons.mp hy with e | hy
        · subst e
          have := hk _ List.mem_cons_self
          rw [hh.1, hh.2.1] at this
          exact this
        · exact ih (fun x hx => hk x (List.mem_cons_of_mem _ hx)) y hy
    exact nk_is I (key h4 hk y hy)
  · obtain ⟨z, hd, vs, rel, o, es, ep, h1, h2, h3, h4, h5, h6⟩ := dk_of I.hok h
    cases rel
    have he : es.toList = [] := by
      generalize es.toList = l at h5
      cases h5; rfl
    exact ⟨hd, [], .nil, o, es, ep, h1, h2, h3, he, fun _ hx => (by cases hx), List.nodup_nil⟩
/-- the object behind a store -/
theorem dn_new (I : Inv X pins σ H s) {a : Addr} {xs : List NX} {vs : List (NestedKey × Addr × Value)} {h' : Heap} {t' : Nat} (mu : Mut (H a)) (hd : (a == sysModules) = false) (r : PV xs vs) (dd : h'.DictOfH (nestedKind X.prog X.w) a vs) (hs : Heap.SameBut a s.heap h') :
    Inv X pins σ (L2.upd H a (dN X.prog X.w a xs)) { s with heap := h', toks := t' } := by
  obtain ⟨o, es, ep, h1, h2, h3, h4, h5, h6⟩ := dd
  refine d_write I mu hs ⟨o, h1⟩ ⟨⟨hd, o, es, ep, vs, h1, h2, h3, r, h4, by rw [← keys_eq r]; exact h6⟩, ⟨o, h1⟩, fun g1 g2 ⟨e0, o, es, ep, vs, e1, e2⟩ st => ⟨e0, o, es, ep, vs, st _ e1, e2⟩⟩
theorem isN_mut {P : Program} {w : World} {a : Addr} {xs : List NX} (h : isN P w H a xs) : Mut (H a) := by
  rcases h with h | ⟨_, h⟩
  · rw [h]; exact True.intro
  · rw [h]; exact True.intro
end
section
variable {X : Cx}
/-- d[k] -/
def rIxK : R2 := fun x y H Q => ∃ a kvs k v, x = .ref a ∧ y = kV k ∧ H a = some (.dK kvs) ∧ valV kvs k = some v ∧ Q v H
def rIxN (P : Program) (w : World) (K : PySem.W.Frag) : R2 := fun x y H Q => ∃ a b xs k v, x = .ref a ∧ y = .ref b ∧ isN P w H a xs ∧ keysN K H xs ∧ NK K H b k ∧ atV xs k = some v ∧ Q v H
theorem room_n {A : Around} (hu : A.units + 64 < cLine) : (nestedKind X.prog X.w).room A.in1 := by show A.units + 1 + 8 < cLine; omega
theorem ix_dK (hu : X.A.units + 64 < cLine) : IxR X rIxK := by
  intro value slice pins s σ H x y v u Q I rx ry ⟨a, kvs, k, z, e1, e2, e3, e4, q⟩ hs
  subst e1 e2
  obtain rfl : v = Value.ref a := rx
  have g : DGet H a (kV k) (some z) := by rw [← e4]; exact .k e3
  exact tail_any (dict_typeIs I g) PySem.F.slot_dict_getitem.lookup (d_getItem (by omega) I g ry fun w' s' I' rw' => ⟨z, H, I', rw', q⟩) hs
theorem ix_dN (hu : X.A.units + 64 < cLine) : IxR X (rIxN X.prog X.w X.K) := by
  intro value slice pins s σ H x y v u Q I rx ry ⟨a, b, xs, k, z, e1, e2, e3, e4, e5, e6, q⟩ hs
  subst e1 e2
  obtain rfl : v = Value.ref a := rx
  obtain rfl : u = Value.ref b := ry
  obtain ⟨hd, vs, r, dd⟩ := dn_at I e3 e4
  obtain ⟨w', hw, rw'⟩ := RelO.some_of (v := z) (o := (atKey vs k).map (·.2)) (by rw [← e6]; exact r.at k)
  obtain ⟨p, hp, hp2⟩ := Option.map_eq_some_iff.mp hw
  refine tail_any dd.typeIs PySem.F.slot_dict_getitem.lookup (wpAny_getItem_heap (room_n hu) (nk_is I e5) dd hp ?_) hs
  rw [hp2]
  exact ⟨z, H, I.tok _, rw', q⟩
/-- k in d -/
def rInK (neg : Bool) : R2 := fun y x H Q => ∃ a kvs k, x = .ref a ∧ y = kV k ∧ H a = some (.dK kvs) ∧ Q (.bl (neg ^^ (valV kvs k).isSome)) H
def rInN (P : Program) (w : World) (K : PySem.W.Frag) (neg : Bool) : R2 := fun y x H Q => ∃ a b xs k, x = .ref a ∧ y = .ref b ∧ isN P w H a xs ∧ keysN K H xs ∧ NK K H b k ∧ Q (.bl (neg ^^ (atV xs k).isSome)) H
theorem op_inK (hu : X.A.units + 64 < cLine) : OpR X (compareOp .In) (rInK false) := by
  intro pins s σ H y x u v Q I ry rx ⟨a, kvs, k, e1, e2, e3, q⟩
  subst e1 e2
  obtain rfl : v = Value.ref a := rx
  rw [Bool.false_xor] at q
  exact d_in (by omega) I (.k e3) ry fun s' I' => ⟨.bl _, H, I', rfl, q⟩
theorem op_notInK (hu : X.A.units + 64 < cLine) : OpR X (compareOp .NotIn) (rInK true) := by
  intro pins s σ H y x u v Q I ry rx ⟨a, kvs, k, e1, e2, e3, q⟩
  subst e1 e2
  obtain rfl : v = Value.ref a := rx
  rw [Bool.true_xor] at q
  exact d_notIn (by omega) I (.k e3) ry fun s' I' => ⟨.bl _, H, I', rfl, q⟩
theorem op_inN (hu : X.A.units + 64 < cLine) : OpR X (compareOp .In) (rInN X.prog X.w X.K false) := by
  intro pins s σ H y x u v Q I ry rx ⟨a, b, xs, k, e1, e2, e3, e4, e5, q⟩
  subst e1 e2
  obtain rfl : v = Value.ref a := rx
  obtain rfl : u = Value.ref b := ry
  obtain ⟨hd, vs, r, dd⟩ := dn_at I e3 e4
  refine wpAny_in_heap (room_n hu) (nk_is I e5) hd dd ?_
  have h := (r.at k).isSome_eq
  rw [Option.isSome_map] at h
  rw [Bool.false_xor, h] at q
  exact ⟨.bl _, H, I.tok _, rfl, q⟩
theorem op_notInN (hu : X.A.units + 64 < cLine) : OpR X (compareOp .NotIn) (rInN X.prog X.w X.K true) := by
  intro pins s σ H y x u v Q I ry rx ⟨a, b, xs, k, e1, e2, e3, e4, e5, q⟩
  subst e1 e2
  obtain rfl : v = Value.ref a := rx
  obtain rfl : u = Value.ref b := ry
  obtain ⟨hd, vs, r, dd⟩ := dn_at I e3 e4
  refine wpAny_notIn_heap (room_n hu) (nk_is I e5) hd dd ?_
  have h := (r.at k).isSome_eq
  rw [Option.isSome_map] at h
  rw [Bool.true_xor, h] at q
  exact ⟨.bl _, H, I.tok _, rfl, q⟩
/-- d[k] = v -/
def rSetK : TSet := fun x y v H Q => ∃ a kvs k, x = .ref a ∧ y = kV k ∧ H a = some (.dK kvs) ∧ kvs.length < sizeLine ∧ Q (L2.upd H a (.dK (putK kvs k v)))
def rSetN (P : Program) (w : World) (K : PySem.W.Frag) : TSet := fun x y v H Q => ∃ a b xs k, x = .ref a ∧ y = .ref b ∧ isN P w H a xs ∧ keysN K H xs ∧ NK K H b k ∧ xs.length ≤ sizeLine ∧ Q (L2.upd H a (dN P w a (stV xs k b v)))
theorem set_dK (hu : X.A.units + 64 < cLine) : PSet X rSetK := by
  intro pins s σ H x y v ov iv u Q I rx ry rv ⟨a, kvs, k, e1, e2, e3, e4, q⟩
  subst e1 e2
  obtain rfl : ov = Value.ref a := rx
  exact d_setItem (by omega) I (.k e3 e4) ry rv fun s' I' => ⟨_, I', q⟩
theorem set_dN (hu : X.A.units + 64 < cLine) : PSet X (rSetN X.prog X.w X.K) := by
  intro pins s σ H x y v ov iv u Q I rx ry rv ⟨a, b, xs, k, e1, e2, e3, e4, e5, e6, q⟩
  subst e1 e2
  obtain rfl : ov = Value.ref a := rx
  obtain rfl : iv = Value.ref b := ry
  obtain ⟨hd, vs, r, dd⟩ := dn_at I e3 e4
  exact wpAny_setItem_heap (hsz := by rw [← Paired.length r]; exact e6) (room_n hu) (nk_is I e5) dd fun h' dd' hs => ⟨_, dn_new I (isN_mut e3) hd (r.st k b rv) dd' hs, q⟩
/-- d.get(k, x), d.get(k) -/
def rGetK : V → List V → Hp → VK → Prop := fun x vs H Q => ∃ a kvs k y, x = .ref a ∧ (vs = [kV k, y] ∨ (vs = [kV k] ∧ y = .non)) ∧ H a = some (.dK kvs) ∧ Q ((valV kvs k).getD y) H
def rGetN (P : Program) (w : World) (K : PySem.W.Frag) : V → List V → Hp → VK → Prop := fun x vs H Q => ∃ a b xs k y, x = .ref a ∧ (vs = [.ref b, y] ∨ (vs = [.ref b] ∧ y = .non)) ∧ isN P w H a xs ∧ keysN K H xs ∧ NK K H b k ∧ Q ((atV xs k).getD y) H
theorem mt_getK (hu : X.A.units + 64 < cLine) : MtR X "dict.get" rGetK := by
  intro pins s σ H x vs v us Q I rx rv ⟨a, kvs, k, y, e1, e2, e3, q⟩
  subst e1
  obtain rfl : v = Value.ref a := rx
  rcases e2 with e2 | ⟨e2, e4⟩
  · subst e2
    obtain ⟨u1, u2, rfl, r1, r2⟩ := vals2 rv
    exact d_get2 (by omega) I (.k e3) r1 r2 fun w' s' I' rw' => ⟨_, H, I', rw', q⟩
  · subst e2 e4
    obtain ⟨u1, rfl, r1⟩ := vals1 rv
    exact d_get1 (by omega) I (.k e3) r1 fun w' s' I' rw' => ⟨_, H, I', rw', q⟩
theorem mt_getN (hu : X.A.units + 64 < cLine) : MtR X "dict.get" (rGetN X.prog X.w X.K) := by
  intro pins s σ H x vs v us Q I rx rv ⟨a, b, xs, k, y, e1, e2, e3, e4, e5, q⟩
  subst e1
  obtain rfl : v = Value.ref a := rx
  obtain ⟨hd, ws, r, dd⟩ := dn_at I e3 e4
  rcases e2 with e2 | ⟨e2, e6⟩
  · subst e2
    obtain ⟨u1, u2, rfl, r1, r2⟩ := vals2 rv
    obtain rfl : u1 = Value.ref b := r1
    exact call_meetsIn PySem.F.slot_dict_get dd.typeIs PySem.F.entry_dict_get (PySem.F.args_dict_get_3 _ _ _) (meetsH_dict_get_default (nestedKind X.prog X.w) a b hd u2) ⟨room_n hu, k, ws, nk_is I e5, dd, ⟨_, H, I.tok _, (r.at k).getD r2, q⟩⟩
  · subst e2 e6
    obtain ⟨u1, rfl, r1⟩ := vals1 rv
    obtain rfl : u1 = Value.ref b := r1
    exact call_meetsIn PySem.F.slot_dict_get dd.typeIs PySem.F.entry_dict_get (PySem.F.args_dict_get_2 _ _) (meetsH_dict_get (nestedKind X.prog X.w) a b hd) ⟨room_n hu, k, ws, nk_is I e5, dd, ⟨_, H, I.tok _, (r.at k).getD (d := V.non) (d' := Value.none) (show RelV V.non Value.none from rfl), q⟩⟩
/-- d.setdefault(k, x) -/
def rSdfN (P : Program) (w : World) (K : PySem.W.Frag) : V → List V → Hp → VK → Prop := fun x vs H Q => ∃ a b xs k y, x = .ref a ∧ vs = [.ref b, y] ∧ isN P w H a xs ∧ keysN K H xs ∧ NK K H b k ∧ xs.length ≤ sizeLine ∧
  (∀ v, atV xs k = some v → Q v H) ∧ (atV xs k = none → Q y (L2.upd H a (dN P w a (stV xs k b y))))
theorem mt_sdfN (hu : X.A.units + 64 < cLine) : MtR X "dict.setdefault" (rSdfN X.prog X.w X.K) := by
  intro pins s σ H x vs v us Q I rx rv ⟨a, b, xs, k, y, e1, e2, e3, e4, e5, e6, q1, q2⟩
  subst e1 e2
  obtain rfl : v = Value.ref a := rx
  obtain ⟨hd, ws, r, dd⟩ := dn_at I e3 e4
  obtain ⟨u1, u2, rfl, r1, r2⟩ := vals2 rv
  obtain rfl : u1 = Value.ref b := r1
  refine call_setdefault_heap (hsz := by rw [← Paired.length r]; exact e6) (room_n hu) (nk_is I e5) hd dd (fun p hp => ?_) fun hn h' dd' hs => ?_
  · have ra := r.at k
    rw [hp] at ra
    cases hv : atV xs k with
    | none => rw [hv] at ra; cases ra
    | some z => rw [hv] at ra; exact ⟨z, H, I.tok _, ra, q1 z hv⟩
  · have hv : atV xs k = none := by
      have ra := r.at k
      rw [hn] at ra
      cases hv : atV xs k with
      | none => rfl
      | some z => rw [hv] at ra; cases ra
    exact ⟨y, _, dn_new I (isN_mut e3) hd (r.st k b r2) dd' hs, r2, q2 hv⟩
/-- len(d) -/
def rLenN (P : Program) (w : World) (K : PySem.W.Frag) : ClR := fun vs H Q => ∃ a xs, vs = [V.ref a] ∧ isN P w H a xs ∧ keysN K H xs ∧ xs.length ≤ sizeLine ∧ Q (.int xs.length) H
theorem call_lenN : CallR X (.builtin "len") (rLenN X.prog X.w X.K) := by
  intro pins s σ H vs us Q I rv ⟨a, xs, e1, e2, e3, e4, q⟩
  subst e1
  obtain ⟨u, rfl, ru⟩ := vals1 rv
  obtain rfl : u = .ref a := ru
  obtain ⟨hd, ws, r, dd⟩ := dn_at I e2 e3
  have hl : xs.length = ws.length := Paired.length r
  refine call_len_dictH hd dd (by rw [← hl]; rw [sizeLine_eq] at e4; omega) ?_
  rw [← hl]
  exact ⟨.int _, H, I.tok _, ⟨_, rfl⟩, q⟩
end
end Ev
set_option Elab.async false
set_option linter.all false
set_option maxRecDepth 100000
/-! Ev13: dicts, what they mean. -/
namespace Ev
open PySem PySem.Spec PyProof.Rows L2

def getK (kvs : List (PyData × D)) (k : PyData) : Option D := (kvs.find? fun p => decide (nk p.1 = nk k)).map (·.2)
def putD (kvs : List (PyData × D)) (k : PyData) (v : D) : List (PyData × D) := if (getK kvs k).isSome then kvs.map (fun p => if nk p.1 = nk k then (p.1, v) else p) else kvs ++ [(k, v)]
def scK : PyData → Bool
  | .int _ => true
  | .str _ => true
  | _ => false
def tuK : PyData → Bool
  | .tuple ds => keysOk ds && decide ((nk (.tuple ds)).depth ≤ 8)
  | _ => false
/-- the key is of the keys' sort -/
def keyFit (kvs : List (PyData × D)) (k : PyData) : Bool := (scK k && kvs.all fun p => scK p.1) || (tuK k && kvs.all fun p => tuK p.1)
section
variable {C : Cf} {θ : List Addr} {H : Hp} {G : GH}
def ROp (C : Cf) (θ : List Addr) (H : Hp) (o : Option D) (p : Option V) : Prop := match o, p with
  | some d, some v => RV C θ H d v
  | none, none => True
  | _, _ => False
theorem ROp.some_of {d : D} {p : Option V} (h : ROp C θ H (some d) p) : ∃ v, p = some v ∧ RV C θ H d v := by
  cases p with
  | none => exact h.elim
  | some v => exact ⟨v, rfl, h⟩
theorem ROp.none_of {p : Option V} (h : ROp C θ H none p) : p = none := by
  cases p with
  | none => rfl
  | some v => exact h.elim
theorem ROp.isSome {o : Option D} {p : Option V} (h : ROp C θ H o p) : o.isSome = p.isSome := by
  cases o <;> cases p <;> first | rfl | exact h.elim
theorem ROp.getD {o : Option D} {p : Option V} {d : D} {v : V} (h : ROp C θ H o p) (r : RV C θ H d v) : RV C θ H (o.getD d) (p.getD v) := by
  cases o <;> cases p <;> first | exact r | exact h.elim | exact h
theorem nk_kD (a b : Key) : (nk (kD a) = nk (kD b)) ↔ a = b := by
  cases a <;> cases b <;> simp [kD, nk]
theorem RKs.get {kvs : List (PyData × D)} {xs : List (Key × V)} (r : RKs C θ H kvs xs) (k : Key) : ROp C θ H (getK kvs (kD k)) (valV xs k) := by
  induction r with
  | nil => exact True.intro
  | @cons k' d ds v vs h _ ih =>
    unfold getK valV at ih ⊢
    rw [List.find?_cons, List.find?_cons]
    by_cases e : k' = k
    · subst e; simp only [decide_true]; exact h
    · have e2 : ¬ nk (kD k') = nk (kD k) := fun z => e ((nk_kD _ _).mp z)
      simp only [e, e2, decide_false]; exact ih
theorem RKt.get {kvs : List (PyData × D)} {xs : List NX} (r : RKt C θ H kvs xs) (k : PyData) : ROp C θ H (getK kvs k) (atV xs (nk k)) := by
  induction r with
  | nil => exact True.intro
  | @cons k' a d ds v vs h1 h2 h3 h _ ih =>
    unfold getK atV at ih ⊢
    rw [List.find?_cons, List.find?_cons]
    by_cases e : nk k' = nk k
    · simp only [e, decide_true]; exact h
    · simp only [e, decide_false]; exact ih
theorem RKs.app {kvs more : List (PyData × D)} {xs ys : List (Key × V)} (r : RKs C θ H kvs xs) (t : RKs C θ H more ys) : RKs C θ H (kvs ++ more) (xs ++ ys) := by
  induction r with
  | nil => exact t
  | cons h _ ih => exact .cons h ih
theorem RKt.app {kvs more : List (PyData × D)} {xs ys : List NX} (r : RKt C θ H kvs xs) (t : RKt C θ H more ys) : RKt C θ H (kvs ++ more) (xs ++ ys) := by
  induction r with
  | nil => exact t
  | cons h1 h2 h3 h _ ih => exact .cons h1 h2 h3 h ih
theorem RKs.put {kvs : List (PyData × D)} {xs : List (Key × V)} (r : RKs C θ H kvs xs) (k : Key) {d : D} {v : V} (rv : RV C θ H d v) : RKs C θ H (putD kvs (kD k) d) (putK xs k v) := by
  have hs := (r.get k).isSome
  have ha : (xs.any fun kv => decide (kv.1 = k)) = (valV xs k).isSome := valV_any k xs
  unfold putD putK
  rw [hs, ha]
  split
  · rename_i hq
    clear hs ha hq
    induction r with
    | nil => exact .nil
    | @cons k' d' ds v' vs h _ ih =>
      rw [List.map_cons, List.map_cons]
      by_cases e : k' = k
      · rw [if_pos e, if_pos (by show nk (kD k') = _; rw [e])]
        subst e
        exact .cons rv ih
      · rw [if_neg e, if_neg (fun z => e ((nk_kD _ _).mp z))]
        exact .cons h ih
  · exact r.app (.cons rv .nil)
theorem RKt.put {kvs : List (PyData × D)} {xs : List NX} (r : RKt C θ H kvs xs) {k : PyData} {a : Addr} {d : D} {v : V} (rk : Rp C H k (.ref a)) (ok : keyOk k = true) (hd : (nk k).depth ≤ 8) (rv : RV C θ H d v) : RKt C θ H (putD kvs k d) (stV xs (nk k) a v) := by
  have hs := (r.get k).isSome
  unfold putD stV
  rw [hs]
  split
  · rename_i hq
    clear hs hq
    induction r with
    | nil => exact .nil
    | @cons k' a' d' ds v' vs h1 h2 h3 h _ ih =>
      rw [List.map_cons, List.map_cons]
      by_cases e : nk k' = nk k
      · rw [if_pos e, if_pos e]
        exact .cons h1 h2 h3 rv ih
      · rw [if_neg e, if_neg e]
        exact .cons h1 h2 h3 h ih
  · exact r.app (.cons rk ok hd rv .nil)
theorem RKt.keys {kvs : List (PyData × D)} {xs : List NX} (r : RKt C θ H kvs xs) : keysN C.K H xs := by
  induction r with
  | nil => intro x hx; cases hx
  | @cons k' a' d' ds v' vs h1 h2 h3 h _ ih =>
    intro x hx
    rcases List.mem_cons.mp hx with e | hx
    · subst e; exact ⟨k', dp_p h1, h2, h3, rfl⟩
    · exact ih x hx
theorem RKs.len {kvs : List (PyData × D)} {xs : List (Key × V)} (r : RKs C θ H kvs xs) : kvs.length = xs.length := by
  induction r with
  | nil => rfl
  | cons _ _ ih => rw [List.length_cons, List.length_cons, ih]
theorem RKt.len {kvs : List (PyData × D)} {xs : List NX} (r : RKt C θ H kvs xs) : kvs.length = xs.length := by
  induction r with
  | nil => rfl
  | cons _ _ _ _ _ ih => rw [List.length_cons, List.length_cons, ih]
theorem tu_ok {k : PyData} (h : tuK k = true) : keyOk k = true ∧ (nk k).depth ≤ 8 ∧ ∃ ds, k = .tuple ds := by
  unfold tuK at h
  split at h
  · rw [Bool.and_eq_true] at h
    exact ⟨by rw [keyOk]; exact h.1, of_decide_eq_true h.2, _, rfl⟩
  · cases h
/-- how a dict of ours stands, seen from a key that fits -/
theorem dict_read (R : Rel C θ H G) {i : Nat} {a : Addr} {kvs : List (PyData × D)} {k : PyData} {y : V} (hi : θ[i]? = some a) (hG : G[i]? = some (.dict kvs)) (rk : Rp C H k y) (fit : keyFit kvs k = true) :
    (∃ xs kk, H a = some (.dK xs) ∧ RKs C θ H kvs xs ∧ y = kV kk ∧ k = kD kk) ∨ ∃ xs b, y = .ref b ∧ isN C.P C.w H a xs ∧ RKt C θ H kvs xs ∧ NK C.K H b (nk k) ∧ xs.length ≤ sizeLine ∧ keyOk k = true ∧ (nk k).depth ≤ 8 := by
  have ro := R.obj i _ a hG hi
  unfold keyFit at fit
  rw [Bool.or_eq_true, Bool.and_eq_true, Bool.and_eq_true] at fit
  rcases fit with ⟨f1, f2⟩ | ⟨f1, f2⟩
  · refine .inl ?_
    obtain ⟨kk, e1, e2⟩ : ∃ kk, y = kV kk ∧ k = kD kk := by
      cases rk with
      | int i => exact ⟨.inl i, rfl, rfl⟩
      | str x => exact ⟨.inr x, rfl, rfl⟩
      | _ => cases f1
    rcases ro with ⟨xs, e, r⟩ | ⟨xs, e, ⟨hne, _⟩, r⟩
    · exact ⟨xs, kk, e, r, e1, e2⟩
    · cases r with
      | nil => exact absurd rfl hne
      | cons h1 _ _ _ _ =>
        rw [List.all_cons, Bool.and_eq_true] at f2
        cases h1
        cases f2.1
  · refine .inr ?_
    obtain ⟨k1, k2, ds, ek⟩ := tu_ok f1
    subst ek
    cases rk with
    | @tup b zs _ hs hr =>
      have hn : NK C.K H b (nk (.tuple ds)) := ⟨_, dp_p (.tup hs hr), k1, k2, rfl⟩
      rcases ro with ⟨xs, e, r⟩ | ⟨xs, e, ⟨hne, hz⟩, r⟩
      · cases r with
        | nil => exact ⟨[], b, rfl, .inr ⟨rfl, e⟩, .nil, hn, Nat.zero_le _, k1, k2⟩
        | @cons kk _ _ _ _ _ _ =>
          rw [List.all_cons, Bool.and_eq_true] at f2
          cases kk <;> cases f2.1
      · exact ⟨xs, b, rfl, .inl e, r, hn, hz, k1, k2⟩
theorem tf_dK' {xs : List (Key × V)} : TF (some (.dK xs)) := ⟨fun _ e => (by cases e), fun _ _ e => (by cases e), fun _ e => (by cases e), fun _ e => (by cases e)⟩
theorem RKs.upd (R : Rel C θ H G) {a : Addr} {u : HO} (ha : a ∈ θ) {d : List (PyData × D)} {v : List (Key × V)} (h : RKs C θ H d v) : RKs C θ (L2.upd H a u) d v := h.imp (fun _ _ => SqT.updI (R.tf a ha).1 (R.tf a ha).2.1) (fun _ _ => SqK.updI (R.tf a ha).2.1) fun _ _ h => h
theorem RKt.upd (R : Rel C θ H G) {a : Addr} {u : HO} (ha : a ∈ θ) {d : List (PyData × D)} {v : List NX} (h : RKt C θ H d v) : RKt C θ (L2.upd H a u) d v := h.imp (fun _ _ => SqT.updI (R.tf a ha).1 (R.tf a ha).2.1) (fun _ _ => SqK.updI (R.tf a ha).2.1) fun _ _ h => h
theorem putD_len (kvs : List (PyData × D)) (k : PyData) (v : D) : (putD kvs k v).length ≤ kvs.length + 1 := by
  unfold putD; split <;> simp
end

/-! ### d[k] -/
def dictAt (G : GH) (d : D) : Option (List (PyData × D)) := match d with
  | .ref i => (match G[i]? with | some (.dict kvs) => some kvs | _ => none)
  | _ => none
def oIxA : Op2 := fun d e G => match dictAt G d with
  | some kvs => (match e with
    | .p k => if keyFit kvs k = true then (match getK kvs k with | some x => .ok x G | none => .stuck) else .stuck
    | _ => .stuck)
  | none => oIx d e G
abbrev rIxA (P : Program) (w : World) (K : PySem.W.Frag) : R2 := fun x y H Q => rIx K x y H Q ∨ rIxK x y H Q ∨ rIxN P w K x y H Q
section
variable {X : Cx} {C : Cf}
theorem ox_ix (hu : X.A.units + 64 < cLine) : IxR X (rIxA X.prog X.w X.K) := ix_seq.or ((ix_dK hu).or (ix_dN hu))
theorem dict_at {θ : List Addr} {H : Hp} {G : GH} {d : D} {v : V} {kvs : List (PyData × D)} (h : dictAt G d = some kvs) (r : RV C θ H d v) : ∃ i a, d = .ref i ∧ v = .ref a ∧ θ[i]? = some a ∧ G[i]? = some (.dict kvs) := by
  unfold dictAt at h
  split at h
  · split at h
    · rename_i ks q
      cases h
      cases r with | ref hi => exact ⟨_, _, rfl, rfl, hi, q⟩
    · cases h
  · cases h
theorem od_ixA : OpD C oIxA (rIxA C.P C.w C.K) := by
  intro θ G H d e v w Q E R rd re h
  unfold oIxA at h
  cases q : dictAt G d with
  | none => rw [q] at h; exact .inl (od_ix θ G H d e v w Q E R rd re h)
  | some kvs =>
    rw [q] at h
    simp only at h
    split at h
    · rename_i k
      split at h
      · rename_i hf
        obtain ⟨i, a, e1, e2, hi, hG⟩ := dict_at q rd
        subst e1 e2
        cases qk : getK kvs k with
        | none => rw [qk] at h; exact h.elim
        | some x =>
          rw [qk] at h
          cases re with
          | p re =>
            rcases dict_read R hi hG re hf with ⟨xs, kk, f1, f2, f3, f4⟩ | ⟨xs, b, f1, f2, f3, f4, f5, f6, f7⟩
            · have g := f2.get kk
              rw [← f4, qk] at g
              obtain ⟨u, hu, ru⟩ := g.some_of
              exact .inr (.inl ⟨a, xs, kk, u, rfl, f3, f1, hu, same_val R ru h⟩)
            · have g := f3.get k
              rw [qk] at g
              obtain ⟨u, hu, ru⟩ := g.some_of
              exact .inr (.inr ⟨a, b, xs, nk k, u, rfl, f1, f2, f3.keys, f4, hu, same_val R ru h⟩)
      · exact h.elim
    · exact h.elim

/-! ### k in d -/
def inD (kvs : List (PyData × D)) (e : D) : Option Bool := match e with
  | .p k => if keyFit kvs k = true then some (getK kvs k).isSome else none
  | _ => none
def cInA : Cm2 := fun e d G => match dictAt G d with
  | some kvs => inD kvs e
  | none => cIn e d G
def cNotInA : Cm2 := fun e d G => match dictAt G d with
  | some kvs => (inD kvs e).map (!·)
  | none => cNotIn e d G
abbrev rInX (P : Program) (w : World) (K : PySem.W.Frag) : R2 := fun x y H Q => rInA K x y H Q ∨ rInK false x y H Q ∨ rInN P w K false x y H Q
abbrev rNotInX (P : Program) (w : World) (K : PySem.W.Frag) : R2 := fun x y H Q => rNotInA K x y H Q ∨ rInK true x y H Q ∨ rInN P w K true x y H Q
theorem ox_inA (hu : X.A.units + 65 < cLine) : OpR X (compareOp .In) (rInX X.prog X.w X.K) := (ox_in hu).or ((op_inK (by omega)).or (op_inN (by omega)))
theorem ox_notInA (hu : X.A.units + 65 < cLine) : OpR X (compareOp .NotIn) (rNotInX X.prog X.w X.K) := (ox_notIn hu).or ((op_notInK (by omega)).or (op_notInN (by omega)))
theorem in_read {θ : List Addr} {H : Hp} {G : GH} {e d : D} {w v : V} {kvs : List (PyData × D)} {b : Bool} (R : Rel C θ H G) (re : RV C θ H e w) (rd : RV C θ H d v) (q : dictAt G d = some kvs) (h : inD kvs e = some b) :
    (∃ a xs k, v = .ref a ∧ w = kV k ∧ H a = some (.dK xs) ∧ b = (valV xs k).isSome) ∨ ∃ a c xs k, v = .ref a ∧ w = .ref c ∧ isN C.P C.w H a xs ∧ keysN C.K H xs ∧ NK C.K H c k ∧ b = (atV xs k).isSome := by
  unfold inD at h
  split at h
  · rename_i k
    split at h
    · rename_i hf
      cases h
      obtain ⟨i, a, e1, e2, hi, hG⟩ := dict_at q rd
      subst e1 e2
      cases re with
      | p re =>
        rcases dict_read R hi hG re hf with ⟨xs, kk, f1, f2, f3, f4⟩ | ⟨xs, c, f1, f2, f3, f4, f5, f6, f7⟩
        · have g := (f2.get kk).isSome
          rw [← f4] at g
          exact .inl ⟨a, xs, kk, rfl, f3, f1, g⟩
        · exact .inr ⟨a, c, xs, nk k, rfl, f1, f2, f3.keys, f4, (f3.get k).isSome⟩
    · cases h
  · cases h
theorem cd_inA : CmpD C cInA (rInX C.P C.w C.K) := by
  intro θ G H e d w v Q b R re rd h q
  unfold cInA at h
  cases qd : dictAt G d with
  | none => rw [qd] at h; exact .inl (cd_in θ G H e d w v Q b R re rd h q)
  | some kvs =>
    rw [qd] at h
    rcases in_read R re rd qd h with ⟨a, xs, k, e1, e2, e3, e4⟩ | ⟨a, c, xs, k, e1, e2, e3, e4, e5, e6⟩
    · exact .inr (.inl ⟨a, xs, k, e1, e2, e3, by rw [Bool.false_xor, ← e4]; exact q⟩)
    · exact .inr (.inr ⟨a, c, xs, k, e1, e2, e3, e4, e5, by rw [Bool.false_xor, ← e6]; exact q⟩)
theorem cd_notInA : CmpD C cNotInA (rNotInX C.P C.w C.K) := by
  intro θ G H e d w v Q b R re rd h q
  unfold cNotInA at h
  cases qd : dictAt G d with
  | none => rw [qd] at h; exact .inl (cd_notIn θ G H e d w v Q b R re rd h q)
  | some kvs =>
    rw [qd] at h
    simp only [Option.map_eq_some_iff] at h
    obtain ⟨b', h, hb⟩ := h
    subst hb
    rcases in_read R re rd qd h with ⟨a, xs, k, e1, e2, e3, e4⟩ | ⟨a, c, xs, k, e1, e2, e3, e4, e5, e6⟩
    · exact .inr (.inl ⟨a, xs, k, e1, e2, e3, by rw [Bool.true_xor, ← e4]; exact q⟩)
    · exact .inr (.inr ⟨a, c, xs, k, e1, e2, e3, e4, e5, by rw [Bool.true_xor, ← e6]; exact q⟩)

/-! ### d[k] = v -/
def setDic (i : Nat) (kvs : List (PyData × D)) (G : GH) : GH := G.set i (.dict kvs)
def setA : D → D → D → GH → Option GH := fun o k x G => match o, k with
  | .ref i, .p k => (match G[i]? with
    | some (.dict kvs) => if keyFit kvs k = true ∧ kvs.length < sizeLine then some (setDic i (putD kvs k x) G) else none
    | _ => setIx (.ref i) (.p k) x G)
  | _, _ => none
abbrev rSetA (P : Program) (w : World) (K : PySem.W.Frag) : TSet := fun x y v H Q => rSetL x y v H Q ∨ rSetK x y v H Q ∨ rSetN P w K x y v H Q
theorem set_any (hu : X.A.units + 64 < cLine) : PSet X (rSetA X.prog X.w X.K) := by
  intro pins s σ H x y v ov iv u Q I rx ry rv h
  rcases h with h | h | h
  · exact set_list pins s σ H x y v ov iv u Q I rx ry rv h
  · exact set_dK hu pins s σ H x y v ov iv u Q I rx ry rv h
  · exact set_dN hu pins s σ H x y v ov iv u Q I rx ry rv h
/-- a dict is written -/
theorem put_dK {θ : List Addr} {H : Hp} {G : GH} (R : Rel C θ H G) {i : Nat} {a : Addr} {kvs : List (PyData × D)} {xs : List (Key × V)} (hi : θ[i]? = some a) (r : RKs C θ H kvs xs) : Rel C θ (L2.upd H a (.dK xs)) (setDic i kvs G) ∧ Step θ H θ (L2.upd H a (.dK xs)) :=
  R.write (o := .dict kvs) (u := .dK xs) hi tf_dK' (.inl ⟨xs, upd_same, r.upd R (List.mem_of_getElem? hi)⟩)
theorem put_dN {θ : List Addr} {H : Hp} {G : GH} (R : Rel C θ H G) {i : Nat} {a : Addr} {kvs : List (PyData × D)} {xs : List NX} (hi : θ[i]? = some a) (r : RKt C θ H kvs xs) (h0 : xs ≠ []) (hz : xs.length ≤ sizeLine) : Rel C θ (L2.upd H a (dN C.P C.w a xs)) (setDic i kvs G) ∧ Step θ H θ (L2.upd H a (dN C.P C.w a xs)) :=
  R.write (o := .dict kvs) (u := dN C.P C.w a xs) hi tf_dN (.inr ⟨xs, upd_same, ⟨h0, hz⟩, r.upd R (List.mem_of_getElem? hi)⟩)
theorem sd_any : SetD C setA (rSetA C.P C.w C.K) := by
  intro θ G H o v i w d u G' Q R ro ri rd h q
  unfold setA at h
  split at h
  · rename_i j k
    split at h
    · rename_i kvs hG
      split at h
      · rename_i hf
        cases h
        cases ro with
        | @ref _ a hi =>
          cases ri with
          | p ri =>
            rcases dict_read R hi hG ri hf.1 with ⟨xs, kk, f1, f2, f3, f4⟩ | ⟨xs, b, f1, f2, f3, f4, f5, f6, f7⟩
            · have r2 := f2.put kk rd
              rw [← f4] at r2
              obtain ⟨R2, st⟩ := put_dK R hi r2
              exact .inr (.inl ⟨a, xs, kk, rfl, f3, f1, by rw [← f2.len]; exact hf.2, q _ _ st R2⟩)
            · subst f1
              have r2 := f3.put ri f6 f7 rd
              obtain ⟨R2, st⟩ := put_dN R hi r2 (stV_ne _ _ _ _) (by have := stV_len xs (nk k) b u; have := f3.len; omega)
              exact .inr (.inr ⟨a, b, xs, nk k, rfl, rfl, f2, f3.keys, f4, f5, q _ _ st R2⟩)
      · cases h
    · exact .inl (sd_lst θ G H _ v _ w d u G' Q R ro ri rd h q)
  · cases h

/-! ### d.get(k), d.get(k, x), d.setdefault(k, x), len(d) -/
def mGet : OpM := fun d as G => match dictAt G d with
  | some kvs => (match as with
    | [.p k, x] => if keyFit kvs k = true then .ok ((getK kvs k).getD x) G else .stuck
    | [.p k] => if keyFit kvs k = true then .ok ((getK kvs k).getD (.p .none)) G else .stuck
    | _ => .stuck)
  | none => .stuck
abbrev rGetX (P : Program) (w : World) (K : PySem.W.Frag) : V → List V → Hp → VK → Prop := fun x vs H Q => rGetK x vs H Q ∨ rGetN P w K x vs H Q
theorem mt_get (hu : X.A.units + 64 < cLine) : MtR X "dict.get" (rGetX X.prog X.w X.K) := (mt_getK hu).or (mt_getN hu)
theorem md_get : MtD C mGet (rGetX C.P C.w C.K) := by
  intro θ G H d v ds vs Q E R rd rv h
  unfold mGet at h
  cases qd : dictAt G d with
  | none => rw [qd] at h; exact h.elim
  | some kvs =>
    rw [qd] at h
    simp only at h
    obtain ⟨i, a, e1, e2, hi, hG⟩ := dict_at qd rd
    subst e1 e2
    split at h
    · split at h
      · rename_i k x hf
        obtain ⟨y1, y2, e, r1, r2⟩ := two_val rv
        cases r1 with
        | p r1 =>
          rcases dict_read R hi hG r1 hf with ⟨xs, kk, f1, f2, f3, f4⟩ | ⟨xs, b, f1, f2, f3, f4, f5, f6, f7⟩
          · have g := (f2.get kk).getD r2
            rw [← f4] at g
            exact .inl ⟨a, xs, kk, y2, rfl, .inl (by rw [e, f3]), f1, same_val R g h⟩
          · exact .inr ⟨a, b, xs, nk k, y2, rfl, .inl (by rw [e, f1]), f2, f3.keys, f4, same_val R ((f3.get k).getD r2) h⟩
      · exact h.elim
    · split at h
      · rename_i k hf
        obtain ⟨y1, e, r1⟩ := one_val rv
        cases r1 with
        | p r1 =>
          rcases dict_read R hi hG r1 hf with ⟨xs, kk, f1, f2, f3, f4⟩ | ⟨xs, b, f1, f2, f3, f4, f5, f6, f7⟩
          · have g := (f2.get kk).getD (d := .p .none) (v := V.non) (.p .non)
            rw [← f4] at g
            exact .inl ⟨a, xs, kk, .non, rfl, .inr ⟨by rw [e, f3], rfl⟩, f1, same_val R g h⟩
          · exact .inr ⟨a, b, xs, nk k, .non, rfl, .inr ⟨by rw [e, f1], rfl⟩, f2, f3.keys, f4, same_val R ((f3.get k).getD (d := .p .none) (v := V.non) (.p .non)) h⟩
      · exact h.elim
    · exact h.elim
/-- tuple keys alone -/
def mSdf : OpM := fun d as G => match d, as with
  | .ref i, [.p k, x] => (match G[i]? with
    | some (.dict kvs) => if (tuK k && kvs.all fun p => tuK p.1) = true ∧ kvs.length < sizeLine then (match getK kvs k with | some y => .ok y G | none => .ok x (setDic i (putD kvs k x) G)) else .stuck
    | _ => .stuck)
  | _, _ => .stuck
theorem md_sdf : MtD C mSdf (rSdfN C.P C.w C.K) := by
  intro θ G H d v ds vs Q E R rd rv h
  unfold mSdf at h
  split at h
  · rename_i i k x
    split at h
    · rename_i kvs hG
      split at h
      · rename_i hf
        cases rd with
        | @ref _ a hi =>
          obtain ⟨y1, y2, e, r1, r2⟩ := two_val rv
          cases r1 with
          | p r1 =>
            have ft : keyFit kvs k = true := by unfold keyFit; rw [hf.1, Bool.or_true]
            rcases dict_read R hi hG r1 ft with ⟨xs, kk, f1, f2, f3, f4⟩ | ⟨xs, b, f1, f2, f3, f4, f5, f6, f7⟩
            · rw [Bool.and_eq_true] at hf
              rw [f4] at hf
              cases kk <;> cases hf.1.1
            · subst f1
              refine ⟨a, b, xs, nk k, y2, rfl, e, f2, f3.keys, f4, f5, fun u hu => ?_, fun hn => ?_⟩
              · have g := f3.get k
                rw [hu] at g
                cases qk : getK kvs k with
                | none => rw [qk] at g; exact g.elim
                | some z =>
                  rw [qk] at h g
                  exact same_val R g h
              · have g := f3.get k
                rw [hn] at g
                cases qk : getK kvs k with
                | some z => rw [qk] at g; exact g.elim
                | none =>
                  rw [qk] at h
                  have rt := f3.put r1 f6 f7 r2
                  obtain ⟨R2, st⟩ := put_dN R hi rt (stV_ne _ _ _ _) (by have := stV_len xs (nk k) b y2; have := f3.len; omega)
                  exact h _ _ st R2 y2 (r2.step R st)
      · exact h.elim
    · exact h.elim
  · exact h.elim
abbrev rLenX (P : Program) (w : World) (K : PySem.W.Frag) : ClR := fun vs H Q => (∃ x n, vs = [x] ∧ LenV K x H n ∧ Q (.int n) H) ∨ (∃ a kvs, vs = [V.ref a] ∧ H a = some (.dK kvs) ∧ Q (.int kvs.length) H) ∨ rLenN P w K vs H Q
theorem call_lenX : CallR X (.builtin "len") (rLenX X.prog X.w X.K) := call_len.or (call_lenD.or call_lenN)
theorem cl_len : ClD C fLen (rLenX C.P C.w C.K) := by
  intro θ G H ds vs Q E R rv h
  unfold fLen at h
  split at h
  · split at h
    · rename_i z hz
      obtain ⟨v, e, r⟩ := one_val rv
      cases r with | p r => cases r; exact .inl ⟨_, _, e, ⟨hz, rfl⟩, same_val R (.p (.int _)) h⟩
    · exact h.elim
  · rename_i d _
    obtain ⟨v, e, r⟩ := one_val rv
    cases q : seqOf d G with
    | some xs =>
      rw [q] at h
      obtain ⟨a, ys, e2, hs, rl⟩ := seq_rel R r q
      exact .inl ⟨_, ys.length, e, by rw [e2]; exact .inl ⟨ys, hs, rfl⟩, by rw [← rl.length]; exact same_val R (.p (.int _)) h⟩
    | none =>
      rw [q] at h
      simp only at h
      cases q2 : itemsOf d with
      | some xs =>
        rw [q2] at h
        obtain ⟨a, ys, e2, hs, rl⟩ := items_rel q2 r
        exact .inl ⟨_, ys.length, e, by rw [e2]; exact .inr ⟨ys, hs, rfl⟩, by rw [← rl.length]; exact same_val R (.p (.int _)) h⟩
      | none =>
        rw [q2] at h
        simp only at h
        split at h
        · split at h
          · rename_i kvs hG
            cases r with
            | @ref _ a hi =>
              rcases R.obj _ _ a hG hi with ⟨xs, ex, rk⟩ | ⟨xs, ex, ⟨_, hz⟩, rk⟩
              · exact .inr (.inl ⟨a, xs, e, ex, by rw [← rk.len]; exact same_val R (.p (.int _)) h⟩)
              · exact .inr (.inr ⟨a, xs, e, .inl ex, rk.keys, hz, by rw [← rk.len]; exact same_val R (.p (.int _)) h⟩)
          · exact h.elim
        · exact h.elim
  · exact h.elim
end
end Ev
set_option Elab.async false
set_option linter.all false
set_option maxRecDepth 100000
/-! Ev14: defs held by names, texts walked, dict comprehensions, dict(pairs), max, a, b, c = x, y, z. -/
namespace Ev
open PySem PySem.Spec PyProof.Rows L2

/-! ### x(..), x a name that holds a def of the module -/
/-- which def a value is -/
def fnOf (d : D) : Option Nat := match d with | .fn i => some i | _ => none
def eCallV (v : Nat) (ar : Nat → Nat) (F : Nat → Fn) (as : DA) : DE := fun ρ G => match ρ[v]? with
  | some (some (.fn i)) => (as ρ G).bind fun ds G => if ds.length = ar i then F i ds G else .stuck
  | _ => .stuck
section
variable {X : Cx} {fa : Nat → Option Addr} {W : WX} {k v : Nat} {ar : Nat → Nat} {F : Nat → Fn} {x : Str} {p pos : Pos} {e : Expr} {es : List Expr} {ms : DA}
/-- the slot holds a def; then its promise -/
def tCallV (C : Cf) (W : WX) (v : Nat) (ar : Nat → Nat) (F : Nat → Fn) (t : TA) : TE := fun σ H Q => ∃ i f, C.fa i = some f ∧ σ[v]? = some (some (.ref f)) ∧ t σ H fun vs H1 => spI C (ar i) (F i) vs H1 Q (WE W σ)
theorem se_callV (g : ∀ i f, fa i = some f → Good X.prog X.w X.K X.mg X.base fa k i (ar i) (F i)) (hr : Room k X.A) (hG : X.A.guards = some []) (tk : Takes X W) (hN : X.N[v]? = some x) (hv : Vis X.env.scope x) (ha : SA X fa W (e :: es) ms)
    (hdb : (x == ("__debug__" : Str)) = false := by decide) (hcd : (x == ("__classdict__" : Str)) = false := by decide)
    (he : starEach (e :: es) X.env = (false, eval e X.env) :: starEach es X.env := by rfl) (hpl : (backTo pos (starEach es X.env)).any (·.1) = false := by rfl) : SE X fa W (.Call (.Name x p) (e :: es) [] pos) (eCallV v ar F ms) := by
  refine wkE (t := tCallV (cf X fa) W v ar F (canA (cf X fa) W ms)) ⟨fun pins s σ H Q I ⟨i, f, h1, h2, h3⟩ => ?_⟩ fun σ H Q ⟨ρ, θ, G, R, er, h⟩ => ?_
  · obtain ⟨f', fd, ps, g1, g2, g3, g4, g5⟩ := (g i f h1).ex
    have h1' : fa i = some f := h1
    rw [h1'] at g1
    cases g1
    refine wpAny_Call_Name_kw (thn ((pe_var (pos := p) hN hv hdb hcd).run pins s σ H (fun v H1 => v = .ref f ∧ H1 = H) I ⟨.ref f, h2, rfl, rfl⟩) fun u s1 ⟨v, H1, I1, r1, q1⟩ => ?_)
    obtain ⟨rfl, rfl⟩ := q1
    cases r1
    exact PySem.W.callWith_K (h₀ := X.base) I1.ok.mod.kin g4 (thn (ha.run pos pins s1 σ _ _ I1 h3) fun us s2 ⟨vs, H2, I2, r, q⟩ => ⟨I2.kIn, ok1_run (E := WE W) g3 hr hG g5 (passAt tk σ) I2 r q⟩) he hpl
  · unfold eCallV at h
    split at h
    · rename_i i q
      obtain ⟨u, h1, r⟩ := er.2 v _ q
      cases r with
      | fn hf =>
        refine ⟨i, _, hf, h1, runA R er h fun ds G1 θ1 H1 vs st1 R1 e1 rv h1 => ?_⟩
        by_cases hl : ds.length = ar i
        · rw [if_pos hl] at h1
          exact ⟨by rw [← rv.length]; exact hl, ds, θ1, G1, R1, rv, h1⟩
        · rw [if_neg hl] at h1; exact h1.elim
    · exact h.elim

/-! ### the signs of a text -/
def srcS (z : Str) : Src := ⟨z.cps.size, fun _ k => (z.cps[k]?).map fun c => .p (.str ⟨#[c]⟩), fun _ => true⟩
def iTxt (m : DE) : MI := fun ρ G => (m ρ G).bind fun d G => match d with | .p (.str z) => .ok (srcS z) G | _ => .stuck
theorem ItOk.txt {C : Cf} {θ0 : List Addr} {H0 : Hp} {z : Str} : ItOk C (Its z) (srcS z) θ0 H0 where
  turn := fun k θ H G d st R hk h => by
    have h' : (z.cps[k]?).map (fun c => D.p (.str ⟨#[c]⟩)) = some d := h
    rw [Option.map_eq_some_iff] at h'
    obtain ⟨c, h1, h2⟩ := h'
    subst h2
    refine ⟨hk, fun x H' ⟨eH, c', e1, e2⟩ => ?_⟩
    subst eH e2
    rw [h1] at e1
    cases e1
    exact ⟨Step.refl, R, .p (.str _)⟩
  stop := fun θ H G st R h => Nat.le_refl _
theorem si_txt {tg a : Expr} {m : DE} (h : SE X fa W a m) : SI X fa W tg a (iTxt m) := by
  refine wkI (pi_str h) fun σ H Q ⟨ρ, θ, G, R, e, h⟩ => ?_
  refine runE R e h fun d G1 θ1 H1 v st1 R1 e1 rv h1 => ?_
  cases rv with
  | p r =>
    cases r with
    | str z => exact ⟨z, rfl, (PostG.now R1 h1) _ ItOk.txt⟩
    | _ => exact h1.elim
  | _ => exact h1.elim

/-! ### max of a list of whole numbers -/
def maxL : List Int → Option Int
  | [] => none
  | n :: ns => some (ns.foldl (fun a b => if a < b then b else a) n)
def fMaxL : Fn := fun as G => match as with | [d] => (match ((seqOf d G).bind intsOf).bind maxL with | some m => okI m G | none => .stuck) | _ => .stuck
theorem fold_max : ∀ (ns : List Int) (a : Int), a ≤ ns.foldl (fun a b => if a < b then b else a) a ∧ (∀ n ∈ ns, n ≤ ns.foldl (fun a b => if a < b then b else a) a) ∧ (ns.foldl (fun a b => if a < b then b else a) a = a ∨ ns.foldl (fun a b => if a < b then b else a) a ∈ ns)
  | [], a => ⟨Int.le_refl _, fun _ h => (by cases h), .inl rfl⟩
  | n :: ns, a => by
    obtain ⟨h1, h2, h3⟩ := fold_max ns (if a < n then n else a)
    rw [List.foldl_cons]
    by_cases e : a < n
    · rw [if_pos e] at h1 h2 h3 ⊢
      refine ⟨by omega, fun m hm => ?_, .inr ?_⟩
      · rcases List.mem_cons.mp hm with z | z
        · subst z; exact h1
        · exact h2 m z
      · rcases h3 with z | z
        · rw [z]; exact List.mem_cons_self
        · exact List.mem_cons_of_mem _ z
    · rw [if_neg e] at h1 h2 h3 ⊢
      refine ⟨h1, fun m hm => ?_, h3.imp id (List.mem_cons_of_mem _)⟩
      rcases List.mem_cons.mp hm with z | z
      · subst z; omega
      · exact h2 m z
theorem max_of {ns : List Int} {m k : Int} (h : maxL ns = some k) (hm : m ∈ ns) (hz : ∀ y, y ∈ ns → y ≤ m) : m = k ∧ 0 < ns.length := by
  cases ns with
  | nil => cases h
  | cons n ns =>
    cases h
    obtain ⟨h1, h2, h3⟩ := fold_max ns n
    refine ⟨?_, Nat.succ_pos _⟩
    have a1 : m ≤ ns.foldl (fun a b => if a < b then b else a) n := by
      rcases List.mem_cons.mp hm with z | z
      · subst z; exact h1
      · exact h2 m z
    have a2 : ns.foldl (fun a b => if a < b then b else a) n ≤ m := by
      rcases h3 with z | z
      · rw [z]; exact hz n List.mem_cons_self
      · exact hz _ (List.mem_cons_of_mem _ z)
    omega
theorem cl_maxL {C : Cf} : ClD C fMaxL (rMax C.K) := by
  intro θ G H ds vs Q E R rv h
  unfold fMaxL at h
  split at h
  · rename_i d
    obtain ⟨v, e, r⟩ := one_val rv
    cases q : ((seqOf d G).bind intsOf).bind maxL with
    | none => rw [q] at h; exact h.elim
    | some k =>
      rw [q] at h
      rw [Option.bind_eq_some_iff] at q
      obtain ⟨ns, q, q3⟩ := q
      rw [Option.bind_eq_some_iff] at q
      obtain ⟨xs, q1, q2⟩ := q
      obtain ⟨a, ys, e2, hs, rl⟩ := seq_rel R r q1
      refine ⟨a, ns, by rw [e, e2], by rw [← ints_rel rl q2]; exact hs, ?_, fun m hm hz => ?_⟩
      · cases ns with
        | nil => cases q3
        | cons _ _ => exact Nat.succ_pos _
      · rw [(max_of q3 hm hz).1]; exact same_val R (.p (.int _)) h
  · exact h.elim

/-! ### dict(xs), xs a list of pairs -/
def keyOf (k : PyData) : Option Key := match k with | .int i => some (.inl i) | .str x => some (.inr x) | _ => none
theorem keyOf_kD {k : PyData} {kk : Key} (h : keyOf k = some kk) : k = kD kk := by
  unfold keyOf at h
  split at h <;> cases h <;> rfl
def pairOf (d : D) : Option (PyData × D) := match itemsOf d with
  | some [.p k, x] => if scK k = true then some (k, x) else none
  | _ => none
def putAll (kvs more : List (PyData × D)) : List (PyData × D) := more.foldl (fun acc kv => putD acc kv.1 kv.2) kvs
def newD (kvs : List (PyData × D)) (G : GH) : Res D := .ok (.ref G.length) (G ++ [.dict kvs])
def fDictP : Fn := fun as G => match as with | [d] => (match (seqOf d G).bind fun xs => allO (xs.map pairOf) with | some ps => newD (putAll [] ps) G | none => .stuck) | _ => .stuck
theorem new_dic {C : Cf} {θ : List Addr} {H : Hp} {G : GH} {kvs : List (PyData × D)} {xs : List (Key × V)} {Q : VK} {E : XK} {p : Addr} (R : Rel C θ H G) (r : RKs C θ H kvs xs) (hp : H p = none) (h : PostG C θ H (newD kvs G) (fun d' _ θ' H' => ∀ u, RV C θ' H' d' u → Q u H') E) : Q (.ref p) (L2.upd H p (.dK xs)) := by
  obtain ⟨R2, st⟩ := R.alloc (o := .dict kvs) (u := .dK xs) hp tf_dK' (.inl ⟨xs, upd_same, r.imp (fun _ _ => SqT.updN hp) (fun _ _ => SqK.updN hp) fun _ _ h => pre_app h⟩)
  refine h _ _ st R2 (.ref p) (.ref ?_)
  rw [← R.len, List.getElem?_append_right (Nat.le_refl _), Nat.sub_self]; rfl
theorem RKs.all {C : Cf} {θ : List Addr} {H : Hp} {more : List (PyData × D)} {ys : List (Key × V)} (t : RKs C θ H more ys) : ∀ {kvs : List (PyData × D)} {xs : List (Key × V)}, RKs C θ H kvs xs → RKs C θ H (putAll kvs more) (mergeK xs ys) := by
  induction t with
  | nil => intro kvs xs r; exact r
  | @cons k d ds v vs h _ ih =>
    intro kvs xs r
    unfold putAll mergeK
    rw [List.foldl_cons, List.foldl_cons]
    exact ih (r.put k h)
theorem pairs_rel {C : Cf} {θ : List Addr} {H : Hp} : ∀ {ds : List D} {vs : List V} {ps : List (PyData × D)}, RVL C θ H ds vs → allO (ds.map pairOf) = some ps → ∃ (as : List Addr) (kvs : List (Key × V)), vs = as.map V.ref ∧ Paired (fun p kv => SqT C.K H p [kV kv.1, kv.2]) as kvs ∧ RKs C θ H ps kvs
  | [], _, ps, .nil, h => by cases h; exact ⟨[], [], rfl, .nil, .nil⟩
  | d :: ds, _, ps, .cons r t, h => by
    rw [List.map_cons] at h
    cases q : pairOf d with
    | none => rw [q] at h; cases h
    | some kx =>
      rw [q] at h
      simp only [allO, Option.map_eq_some_iff] at h
      obtain ⟨ps', h1, h2⟩ := h
      subst h2
      obtain ⟨as, kvs, e, hp, rk⟩ := pairs_rel t h1
      unfold pairOf at q
      split at q
      · rename_i k x qi
        split at q
        · rename_i hk
          cases q
          obtain ⟨a, xs, ev, hs, rl⟩ := items_rel qi r
          obtain ⟨v1, v2, e2, r1, r2⟩ := two_val rl
          subst e2
          cases r1 with
          | p r1 =>
            obtain ⟨kk, e3, e4⟩ : ∃ kk, v1 = kV kk ∧ k = kD kk := by
              cases r1 with
              | int i => exact ⟨.inl i, rfl, rfl⟩
              | str x => exact ⟨.inr x, rfl, rfl⟩
              | _ => cases hk
            subst e3 e4
            exact ⟨a :: as, (kk, v2) :: kvs, by rw [ev, e]; rfl, .cons hs hp, .cons r2 rk⟩
        · cases q
      · cases q
abbrev rDictP (K : PySem.W.Frag) : ClR := fun xs H Q => ∃ (a : Addr) (ps : List Addr) (kvs : List (Key × V)), xs = [.ref a] ∧ SqL K H a (ps.map V.ref) ∧ Paired (fun p kv => SqT K H p [kV kv.1, kv.2]) ps kvs ∧ ∀ p, H p = none → Q (.ref p) (L2.upd H p (.dK (mergeK [] kvs)))
theorem cl_dictP {C : Cf} : ClD C fDictP (rDictP C.K) := by
  intro θ G H ds vs Q E R rv h
  unfold fDictP at h
  split at h
  · rename_i d
    obtain ⟨v, e, r⟩ := one_val rv
    cases q : (seqOf d G).bind fun xs => allO (xs.map pairOf) with
    | none => rw [q] at h; exact h.elim
    | some ps =>
      rw [q] at h
      rw [Option.bind_eq_some_iff] at q
      obtain ⟨xs, q1, q2⟩ := q
      obtain ⟨a, ys, e2, hs, rl⟩ := seq_rel R r q1
      obtain ⟨as, kvs, e3, hp, rk⟩ := pairs_rel rl q2
      exact ⟨a, as, kvs, by rw [e, e2], by rw [← e3]; exact hs, hp, fun p hn => new_dic R (rk.all .nil) hn h⟩
  · exact h.elim

/-! ### a, b, c = x, y, z -/
def sPar3 (i j l : Nat) (es : DA) : DS := fun ρ G => (es ρ G).bindS ρ fun ds G => match ds with | [d, d', d''] => .nx (((ρ.set i (some d)).set j (some d')).set l (some d'')) G | _ => .stuck
theorem ss_par3 {i j l : Nat} {x y z : Str} {a b c : Expr} {ma : DA} {px py pz pt : Pos} {kt k2 : Nat} {pt2 : Pos} (hc : X.calm = true) (hN : X.N.Nodup) (hi : X.N[i]? = some x) (hj : X.N[j]? = some y) (hl : X.N[l]? = some z) (hij : i ≠ j) (hil : i ≠ l) (hjl : j ≠ l)
    (hx : X.env.scope.names.lookup x = some .local) (hy : X.env.scope.names.lookup y = some .local) (hz : X.env.scope.names.lookup z = some .local) (ha : SA X fa W [a, b, c] ma)
    (hw : swappedStores [.Tuple [.Name x px, .Name y py, .Name z pz] kt pt] (.Tuple [a, b, c] k2 pt2) X.env = pure (some [x, y, z]) := by rfl)
    (hs : swapsWithSole [.Tuple [.Name x px, .Name y py, .Name z pz] kt pt] (.Tuple [a, b, c] k2 pt2) pos.line X.env = pure false := by rfl) :
    SS X fa W (.Assign [.Tuple [.Name x px, .Name y py, .Name z pz] kt pt] (.Tuple [a, b, c] k2 pt2) pos) (sPar3 i j l ma) := by
  refine wkS (ps_par3 hc hN hi hj hl hij hil hjl hx hy hz ha hw hs) fun D σ H ⟨ρ, θ, G, R, e, h⟩ => ⟨ρ, θ, G, R, e, (h.bind R e).mono fun ds G' θ' H' st R' p vs rl => ?_⟩
  cases rl with
  | nil => exact p.elim
  | cons r1 rl =>
    cases rl with
    | nil => exact p.elim
    | cons r2 rl =>
      cases rl with
      | nil => exact p.elim
      | cons r3 rl =>
        cases rl with
        | nil => exact ⟨_, _, _, rfl, p θ' H' _ Step.refl R' ((((e.step R st).set r1).set r2).set r3)⟩
        | cons _ _ => exact p.elim
end

/-! ### {k: v for target in iter if ..}, keys whole numbers or texts -/
def dcLoop (src : Src) (g : MG) (tt : DT) (tk tv : DE) (ρ : Rho) : Nat → Nat → List (PyData × D) → GH → Res (List (PyData × D))
  | 0, _, acc, G => if src.fin G = true then .ok acc G else .stuck
  | r + 1, k, acc, G => match src.at_ G k with
    | none => .stuck
    | some d => match g d ρ G with
      | none => .stuck
      | some (ρ2, G) => (noExc (tt ρ2 G)).bind fun b G => if b then (noExc (tk ρ2 G)).bind fun y G => (noExc (tv ρ2 G)).bind fun z G => match y with
          | .p y => if scK y = true then dcLoop src g tt tk tv ρ r (k + 1) (putD acc y z) G else .stuck
          | _ => .stuck
        else dcLoop src g tt tk tv ρ r (k + 1) acc G
def eDc (it : MI) (g : MG) (tt : DT) (tk tv : DE) (vs : List Nat) : DE := fun ρ G => (it ρ G).bind fun src G => if src.n < sizeLine then (dcLoop src g tt tk tv (rwipe ρ vs) src.n 0 [] G).bind fun acc G => newD acc G else .stuck
section
variable {X : Cx} {fa : Nat → Option Addr} {W : WX}
theorem dc_read {mi : MI} {g : MG} {tt : DT} {tk tv : DE} {vs : List Nat} {ws : List Nat} {σ : L2.St} {H : Hp} {Q : VK} (hw : ∀ j ∈ ws, j ∈ vs) (C : Cf)
    (h : canE C W (eDc mi g tt tk tv vs) σ H Q) : tDc (canI C W mi) (canG C ws g) (canT C WF tt) (canE C WF tk) (canE C WF tv) vs σ H Q := by
  obtain ⟨ρ, θ, G, R, e, h⟩ := h
  refine ⟨ρ, θ, G, R, e, h.bind.mono fun src G1 θ1 H1 st1 R1 h1 J ok => fun D hD => ?_⟩
  have hn : src.n < sizeLine := by
    by_cases hn : src.n < sizeLine
    · exact hn
    · simp only [if_neg hn] at h1; exact h1.elim
  simp only [if_pos hn] at h1
  refine ⟨fun i m H' => ∃ acc θ' G' xs, i + m = src.n ∧ acc.length ≤ i ∧ Step θ1 H1 θ' H' ∧ Rel C θ' H' G' ∧ D ∉ θ' ∧ H' D = some (.dK xs) ∧ RKs C θ' H' acc xs ∧
    PostG C θ1 H1 ((dcLoop src g tt tk tv (rwipe ρ vs) m i acc G').bind fun acc G => newD acc G) (fun d _ θ' H' => ∀ v, RV C θ' H' d v → Q v H') (WE W σ),
    ⟨src.n, [], θ1, G1, [], by simp, Nat.le_refl _, Step.newT hD, R1.out_upd (R1.notin hD) (none_tup hD) (none_frz hD) (none_xd hD), R1.notin hD, upd_same, .nil, h1⟩, ?_⟩
  rintro i m H' ⟨acc, θ', G', xs, hm, ha, st', R', hDn, eD, ra, p⟩
  have e' : REnv C θ' H' (rwipe ρ vs) (L2.wipe σ vs) := ((e.step R st1).wipe vs).step R1 st'
  cases m with
  | zero =>
    simp only [dcLoop] at p
    by_cases hf : src.fin G' = true
    · rw [if_pos hf] at p
      have hi : i = src.n := by omega
      refine .inl ⟨by rw [hi]; exact ok.stop θ' H' G' st' R' hf, ?_⟩
      refine p (θ' ++ [D]) H' (st'.push hD) (R'.push hDn (by rw [eD]; exact tf_dK') (.inl ⟨xs, eD, ra.imp (fun _ _ h => h) (fun _ _ h => h) fun _ _ h => pre_app h⟩)) (.ref D) (.ref ?_)
      rw [← R'.len, List.getElem?_append_right (Nat.le_refl _), Nat.sub_self]; rfl
    · rw [if_neg hf] at p; exact p.elim
  | succ m =>
    simp only [dcLoop] at p
    cases qa : src.at_ G' i with
    | none => rw [qa] at p; exact p.elim
    | some d =>
      rw [qa] at p
      simp only at p
      obtain ⟨go, yl⟩ := ok.turn i θ' H' G' d st' R' (by omega) qa
      refine .inr ⟨go, fun H2 => ∃ acc θ' G' xs, i + 1 + m = src.n ∧ acc.length ≤ i + 1 ∧ Step θ1 H1 θ' H2 ∧ Rel C θ' H2 G' ∧ D ∉ θ' ∧ H2 D = some (.dK xs) ∧ RKs C θ' H2 acc xs ∧
        PostG C θ1 H1 ((dcLoop src g tt tk tv (rwipe ρ vs) m (i + 1) acc G').bind fun acc G => newD acc G) (fun d _ θ' H' => ∀ v, RV C θ' H' d v → Q v H') (WE W σ), fun H2 q => ⟨m, Nat.lt_succ_self m, q⟩, fun x H2 y => ?_⟩
      obtain ⟨s2, R2, rv⟩ := yl x H2 y
      refine ⟨d, rwipe ρ vs, θ', G', R2, e'.step R' s2, rv, ?_⟩
      cases qg : g d (rwipe ρ vs) G' with
      | none => rw [qg] at p; exact p.elim
      | some pr =>
        obtain ⟨ρ3, G3⟩ := pr
        rw [qg] at p
        simp only at p
        intro θ3 H3 σ3 s3 R3 e3 sb
        have st3 := (st'.trans s2).trans s3
        have hD3 : H3 D = some (.dK xs) := s3.keep D _ (s2.keep D _ eD hDn) hDn
        have nin : ∀ {θ4 : List Addr} {H4 : Hp}, Step θ' H' θ4 H4 → D ∉ θ4 := fun {θ4 H4} s hm => by
          obtain ⟨more, em, fm⟩ := s.pre
          rw [em] at hm
          rcases List.mem_append.mp hm with z | z
          · exact hDn z
          · rw [fm D z] at eD; cases eD
        have assoc : ∀ {α β : Type} (r : Res α) (k : α → GH → Res β) (k2 : β → GH → Res Ev.D), ((noExc r).bind k).bind k2 = (noExc r).bind (fun b G => (k b G).bind k2) := fun r k k2 => by cases r <;> rfl
        refine ⟨((sameBut_wipe.trans sb).mono (fun j hj => (List.mem_append.mp hj).elim id (hw j))).wipe, ρ3, θ3, G3, R3, e3, ?_⟩
        rw [assoc] at p
        obtain ⟨b, G4, er, p4⟩ := noExc_inv p
        rw [er]
        intro θ4 H4 s4 R4
        have st4 := st3.trans s4
        cases b with
        | false =>
          simp only [Bool.false_eq_true, if_false] at p4 ⊢
          exact ⟨acc, θ4, G4, xs, by omega, by omega, st4, R4, nin ((s2.trans s3).trans s4), s4.keep D _ hD3 (nin (s2.trans s3)), ra.step R' ((s2.trans s3).trans s4), p4⟩
        | true =>
          simp only [if_true] at p4 ⊢
          refine ⟨ρ3, θ4, G4, R4, e3.step R3 s4, ?_⟩
          rw [assoc] at p4
          obtain ⟨dy, G5, er5, p5⟩ := noExc_inv p4
          rw [er5]
          intro θ5 H5 s5 R5 v5 rv5
          refine ⟨ρ3, θ5, G5, R5, (e3.step R3 s4).step R4 s5, ?_⟩
          rw [assoc] at p5
          obtain ⟨dz, G6, er6, p6⟩ := noExc_inv p5
          rw [er6]
          intro θ6 H6 s6 R6 v6 rv6
          have s36 := (s4.trans s5).trans s6
          have sAll := (s2.trans s3).trans s36
          have hD6 : H6 D = some (.dK xs) := s36.keep D _ hD3 (nin (s2.trans s3))
          have n6 := nin sAll
          have nt : ∀ ys, H6 D ≠ some (.tup ys) := fun ys z => by rw [hD6] at z; cases z
          have nf : ∀ ob u, H6 D ≠ some (.frz ob u) := fun ob u z => by rw [hD6] at z; cases z
          have rv5' := rv5.step R5 s6
          split at p6
          · rename_i y
            split at p6
            · rename_i hk
              cases rv5' with
              | p ry =>
                obtain ⟨kk, e1, e2⟩ : ∃ kk, v5 = kV kk ∧ y = kD kk := by
                  cases ry with
                  | int i => exact ⟨.inl i, rfl, rfl⟩
                  | str x => exact ⟨.inr x, rfl, rfl⟩
                  | _ => cases hk
                subst e2
                have ra6 := ra.step R' sAll
                refine ⟨xs, kk, e1, hD6, by rw [← ra.len]; omega, putD acc (kD kk) dz, θ6, G6, putK xs kk v6, by omega, by have := putD_len acc (kD kk) dz; omega, ((st3.trans s36)).more hD, R6.out_upd n6 nt nf (fun vs z => by rw [hD6] at z; cases z), n6, upd_same, ?_, p6⟩
                exact (ra6.put kk rv6).imp (fun _ _ => SqT.updI nt nf) (fun _ _ => SqK.updI nf) fun _ _ h => h
            · exact p6.elim
          · exact p6.elim
theorem se_dc {kx vx tg iter : Expr} {ifs : List Expr} {scope : Scope} {own : List (Str × Nat)} {ws : List Nat} {pos : Pos} {mi : MI} {g : MG} {tt : DT} {tk tv : DE} (hc : X.calm = true) (hN : X.N.Nodup) (hi : SI X fa W tg iter mi) (ok : BlkOk X.N X.env.scope scope own)
    (hw : ∀ j ∈ ws, j ∈ own.map (·.2))
    (hg : ∀ (s : Shared) (H : Hp) (C : Addr) (cl : List (Str × Addr)) (fp : List Addr), SG (X.blk s H scope (compEnvC scope cl C X.env) fp) fa ws tg g) (ht : ∀ (s : Shared) (H : Hp) (C : Addr) (cl : List (Str × Addr)) (fp : List Addr), STs (X.blk s H scope (compEnvC scope cl C X.env) fp) fa WF ifs tt)
    (hk : ∀ (s : Shared) (H : Hp) (C : Addr) (cl : List (Str × Addr)) (fp : List Addr), SE (X.blk s H scope (compEnvC scope cl C X.env) fp) fa WF kx tk)
    (he : ∀ (s : Shared) (H : Hp) (C : Addr) (cl : List (Str × Addr)) (fp : List Addr), SE (X.blk s H scope (compEnvC scope cl C X.env) fp) fa WF vx tv) (hs : ∀ x, foldedSetIterable iter X.env x = pure x := by intro _; rfl) :
    SE X fa W (.DictComp kx vx [⟨tg, iter, ifs, 0⟩] scope pos) (eDc mi g tt tk tv (own.map (·.2))) :=
  wkE (pe_dc hc hN hi ok hg ht hk he hs) fun σ H Q h => dc_read hw (cf X fa) h
end
end Ev
set_option Elab.async false
set_option linter.all false
set_option maxRecDepth 100000
/-! Ev15: an own exception over ValueError whose __init__ says super().__init__(a, b); self.a = a; self.b = b. -/
namespace Ev
open PySem PySem.Spec PyProof.Rows L2
def body2 (n1 n2 : Str) (p1 p2 p3 p4 p5 p6 p7 p8 p9 p10 p11 p12 p13 p14 p15 : Pos) : List Stmt := [
  .Expr (.Call (.Attribute (.Call (.Name "super" p1) [] [] p2) "__init__" p3) [.Name n1 p4, .Name n2 p5] [] p6) p7,
  .Assign [.Attribute (.Name "self" p8) n1 p9] (.Name n1 p10) p11,
  .Assign [.Attribute (.Name "self" p12) n2 p13] (.Name n2 p14) p15]
def scope2 (n1 n2 : Str) : Scope := { kind := .function, names := [(Str.ofString "self", .local), (n1, .local), (n2, .local), (Str.ofString "__class__", .free), (Str.ofString "super", .globalImplicit)], isGenerator := false, isCoroutine := false, more := [] }
section
variable {prog : Program} {w : World} {A : Around} {E : Value → Shared → Prop} {h : Heap} {g : Array GenState} {d : Drawn} {t : Nat} {os : OsState}
variable {nm q : Str} {C N : Addr} {bs bm : List Value} {hdct : Bool} {sn : List Str} {sub : List Value} {ab : Bool} {col : Option Bool} {dd : Option Addr} {k0 k1 k2 k3 k5 : Option Value}
/-- the bound ValueError.__init__ called: the args are laid anew -/
theorem bound_ve {u e t0 : Addr} {rest : List Value} {Q : Value → Shared → Prop} (hC : h.get? C = some (excClassObj nm q C N bs bm hdct sn sub ab col dd k0 k1 k2 k3 k5 "ValueError.__new__")) (he : h.get? e = some (HandSPX.excO C t0)) (hu : h.get? u = some (W.kxs_mw "ValueError.__init__" e)) (hrest : rest.length ≤ sizeLine)
    (hq : ∀ h' t1, (∀ b o, b ≠ e → h.get? b = some o → h'.get? b = some o) → h'.get? e = some (HandSPX.excO C t1) → Q .none ⟨h', g, d, t, os⟩) :
    wpAny (model prog w) A (call (.ref u) rest) Q E ⟨h, g, d, t, os⟩ := by
  refine wpAny_call (codeAny_of_tree ?_)
  show wpAny _ A.in1 (callAny (.ref u) ⟨rest, []⟩) _ _ _
  simp only [callAny]
  refine wpAny_bind (wpAny_load hu ?_)
  have m1 : (Value.type "method-wrapper" == Value.type "method" || Value.type "method-wrapper" == Value.type "builtin_function_or_method" || Value.type "method-wrapper" == Value.type "method-wrapper") = true := by decide
  simp only [W.kxs_mw, m1, if_true]
  refine W.KFB.if_so (by decide) ?_
  refine wpAny_bind (ESX.check_bound F.excBase_ValueError hC he rfl ?_)
  refine wpAny_bind (wpAny_pure (wpAny_pure ⟨Code.quiet_builtin _ (by decide +kernel), codeAny_builtin F.excBase_ValueError.initEntry ?_⟩))
  rw [Around.under_plainId F.excBase_ValueError.init.plain _]
  wp_walk
  refine hq _ h.objs.size (fun b o hb ho => ?_) ?_
  · rw [Heap.get?_update_other _ _ (Ne.symm hb)]
    exact Heap.get?_push_of_some _ ho
  · rw [Heap.get?_update_self _ (Heap.get?_push_of_some _ he) rfl]
    rfl
end
/-- how super().__init__(a, b) is gone through -/
def SupCall (env : Env) (n1 n2 : Str) (p1 p2 p3 p4 p5 p6 : Pos) : Prop := ∃ pl : Sem Bool, eval (.Call (.Attribute (.Call (.Name "super" p1) [] [] p2) "__init__" p3) [.Name n1 p4, .Name n2 p5] [] p6) env = (do
  let ov ← attributeBase (.Call (.Name "super" p1) [] [] p2) "__init__" env (eval (.Call (.Name "super" p1) [] [] p2) env)
  standAt p3.atName
  let (f, first) ← holding [ov] (getMethod ov "__init__" pl)
  callWith p6 f first (backTo p6 (starEach [.Name n1 p4, .Name n2 p5] env)) [])
/-- what is asked of the written part and of the top -/
structure Init2 (prog : Program) (K : PySem.W.Frag) (C fI : Addr) (n1 n2 : Str) : Prop where
  ex : ∃ (oc : Value) (od : Option Addr) (osl : Array (Option Value)) (qual : Str) (a1 a2 a3 : Pos) (dV kV doc pm ct : Value) (an : Option Addr) (cda cc : Addr) (p1 p2 p3 p4 p5 p6 p7 p8 p9 p10 p11 p12 p13 p14 p15 : Pos),
    K.lookup fI = some ⟨oc, od, .func (PySem.W.fnX "__init__" qual { posonlyargs := [], args := [⟨"self", none, a1⟩, ⟨n1, none, a2⟩, ⟨n2, none, a3⟩], vararg := none, kwonlyargs := [], kw_defaults := [], kwarg := none, defaults := [] } (body2 n1 n2 p1 p2 p3 p4 p5 p6 p7 p8 p9 p10 p11 p12 p13 p14 p15) (scope2 n1 n2) [("__class__", cc)] dV kV doc pm an (.ref cda) ct), osl⟩ ∧
    PySem.W.codeIn K (.ref cda) qual = true ∧
    (∀ u v1 v2 : Value, bindArgs (PySem.W.fnX "__init__" qual { posonlyargs := [], args := [⟨"self", none, a1⟩, ⟨n1, none, a2⟩, ⟨n2, none, a3⟩], vararg := none, kwonlyargs := [], kw_defaults := [], kwarg := none, defaults := [] } (body2 n1 n2 p1 p2 p3 p4 p5 p6 p7 p8 p9 p10 p11 p12 p13 p14 p15) (scope2 n1 n2) [("__class__", cc)] dV kV doc pm an (.ref cda) ct) ⟨[u, v1, v2], []⟩ = pure [(Str.ofString "self", u), (n1, v1), (n2, v2)]) ∧
    (∀ l : Addr, SupCall (callEnv (PySem.W.fnX "__init__" qual { posonlyargs := [], args := [⟨"self", none, a1⟩, ⟨n1, none, a2⟩, ⟨n2, none, a3⟩], vararg := none, kwonlyargs := [], kw_defaults := [], kwarg := none, defaults := [] } (body2 n1 n2 p1 p2 p3 p4 p5 p6 p7 p8 p9 p10 p11 p12 p13 p14 p15) (scope2 n1 n2) [("__class__", cc)] dV kV doc pm an (.ref cda) ct) l fI) n1 n2 p1 p2 p3 p4 p5 p6) ∧
    (∃ cl cld csl, K.lookup cc = some ⟨cl, cld, .cell (some (.ref C)), csl⟩) ∧
    (∃ ccl cdd vs ccs file tf, K.lookup cda = some ⟨ccl, cdd, .fields vs, ccs⟩ ∧ vs[2]? = some (.str file tf) ∧ ((prog.main.file : Str) == file) = true)
  oex : OexC K C
  sub : PySem.W.mroIn K C (.ref C) = some true
  sup : PySem.W.ks_superIn K C C "__init__" = some (some (.builtin "ValueError.__init__"))
  ve : PySem.W.subIn K (.ref C) (.type "ValueError") = some true
  any : PySem.W.nsIn K cStatics "thirdparty.any" = some none
  top : (prog.main.scope.names.lookup ("super" : Str)).isSome = false
  f1 : PySem.W.findIn K (.ref C) n1 = some none
  f2 : PySem.W.findIn K (.ref C) n2 = some none
  ls : (scope2 n1 n2).names.lookup (Str.ofString "super") = some .globalImplicit
  lc : (scope2 n1 n2).names.lookup (Str.ofString "__class__") = some .free
  ne : n1 ≠ n2
  s1 : n1 ≠ "self"
  s2 : n2 ≠ "self"
  d1 : (n1 == ("__debug__" : Str)) = false
  d2 : (n2 == ("__debug__" : Str)) = false
section
variable {prog : Program} {w : World} {A : Around} {K : PySem.W.Frag} {C fI : Addr} {n1 n2 : Str} {hp : Heap} {g : Array GenState} {d : Drawn} {t : Nat} {os : OsState} {mg mb : Str → Option Value} {R : Result → Shared → Prop}
theorem run_init2 (T : Init2 prog K C fI n1 n2) (X : K.In hp) (hl : hp.NoLimit) (hg : hp.Ns mainGlobals mg) (hb : hp.Ns builtinsNs mb) (gs : mg "super" = none) (bsup : mb "super" = some (.type "super")) (hroom : A.depth < recursionLimit) {e t0 : Addr} {v1 v2 : Value} (hKe : K.lookup e = none) (he : hp.get? e = some (HandSPX.excO C t0))
    (hq : ∀ h' tk dx t1, (∀ b o, b ≠ e → hp.get? b = some o → h'.get? b = some o) → hp.objs.size ≤ dx → dx ≠ e → h'.get? e = some ({ cls := .ref C, dict := some dx, data := .fields #[.ref t1, .none, .none, .none, .bool false, .none] } : Obj) →
      h'.Ns1 dx (fun y => if y = n2 then some v2 else if y = n1 then some v1 else none) → R (.ok (.ret .none)) ⟨h', g, d, tk, os⟩) :
    codeAny (model prog w) A (.call (.ref fI) ⟨[.ref e, v1, v2], []⟩) R ⟨hp, g, d, t, os⟩ := by
  obtain ⟨oc, od, osl, qual, a1, a2, a3, dV, kV, doc, pm, ct, an, cda, cc, p1, p2, p3, p4, p5, p6, p7, p8, p9, p10, p11, p12, p13, p14, p15, hf, hcd, hbd, hsc, ⟨cl, cld, csl, hcell⟩, ccl, cdd, vs, ccs, file, tf, hco, hvs, hfile⟩ := T.ex
  obtain ⟨nm, q, N, bs, bm, sn, sub, ab, col, dd, k0, k1, k2, k3, k5, hC, hbm⟩ := T.oex.cls
  have hcl : PySem.W.clsIn K C = some { name := nm, bases := bs, mro := .ref C :: bm, ns := N, qualname := q, hasDict := true, slotNames := sn, subclasses := sub, abstract := ab, collection := col, hasDel := false } := by unfold PySem.W.clsIn; rw [hC]
  have l1 : (scope2 n1 n2).names.lookup n1 = some .local := by
    have : (n1 == Str.ofString "self") = false := by simpa using T.s1
    simp [scope2, List.lookup, this]
  have l2 : (scope2 n1 n2).names.lookup n2 = some .local := by
    have z1 : (n2 == Str.ofString "self") = false := by simpa using T.s2
    have z2 : (n2 == n1) = false := by simpa using fun e => T.ne e.symm
    simp [scope2, List.lookup, z1, z2]
  refine ks_codeAny_call_defAt (binds := [("self", .ref e), (n1, v1), (n2, v2)]) hroom (X _ _ hf) rfl hl (PySem.W.codeRec_of X hcd) rfl (BindsTo.of_eq (hbd _ _ _)) (by intro x hx; simp only [PySem.W.fnX, scope2, List.mem_cons, List.not_mem_nil, or_false] at hx; rcases hx with e | e | e | e | e <;> subst e <;> exact fun z => by cases z) (by
    intro x hx
    simp only [List.mem_cons, List.not_mem_nil, or_false] at hx
    rcases hx with e | e | e
    · subst e; rfl
    · subst e; exact l1
    · subst e; exact l2) (fun h₀ hns hk => ?_)
  -- the names at the entry
  have ms : ([(Str.ofString "self", Value.ref e), (n1, v1), (n2, v2)] : List (Str × Value)).reverse.lookup (Str.ofString "self") = some (Value.ref e) := by
    have z1 : (Str.ofString "self" == n2) = false := by simpa using fun e => T.s2 e.symm
    have z2 : (Str.ofString "self" == n1) = false := by simpa using fun e => T.s1 e.symm
    show List.lookup (Str.ofString "self") [(n2, v2), (n1, v1), (Str.ofString "self", Value.ref e)] = _
    rw [List.lookup, z1, List.lookup, z2, List.lookup]
    simp
  have m1 : ([(Str.ofString "self", Value.ref e), (n1, v1), (n2, v2)] : List (Str × Value)).reverse.lookup n1 = some v1 := by
    have z1 : (n1 == n2) = false := by simpa using T.ne
    show List.lookup n1 [(n2, v2), (n1, v1), (Str.ofString "self", Value.ref e)] = _
    rw [List.lookup, z1, List.lookup]
    simp
  have m2 : ([(Str.ofString "self", Value.ref e), (n1, v1), (n2, v2)] : List (Str × Value)).reverse.lookup n2 = some v2 := by
    show List.lookup n2 [(n2, v2), (n1, v1), (Str.ofString "self", Value.ref e)] = _
    rw [List.lookup]
    simp
  have he0 := hk _ _ he
  have ltE : e < hp.objs.size := Heap.lt_size he
  have eL : e ≠ hp.objs.size := Nat.ne_of_lt ltE
  have X0 : K.In h₀ := X.keeps hk
  obtain ⟨pl, hpl⟩ := hsc hp.objs.size
  refine ks_wpAt_execs_cons (ks_wpAt_Expr_any (ks_wpAt_MethodCall (pl := pl) ?_ hpl) rfl (by rfl))
  refine ks_wpAt_super_base (ar := ⟨"self", none, a1⟩) T.ls T.lc rfl rfl (X0 _ _ hf) rfl rfl rfl (X0 _ _ hco) rfl hvs hfile T.top ?_
  refine W.ks_loadName_global rfl T.ls (Calls.loadGlobal_builtin (hg.keeps hk) gs (hb.keeps hk) bsup ⟨rfl, ?_⟩)
  refine wpAny_loadName_free rfl T.lc rfl ⟨_, X0 _ _ hcell, rfl⟩ ?_
  refine wpAny_loadName_local rfl rfl hns ms ?_
  refine ks_wpAny_isType_cls (X0 _ _ hC) rfl ⟨rfl, ?_⟩
  refine ks_wpAny_call_super (X0 _ _ hC) rfl he0 rfl (fun c z => by cases z) (PySem.W.looks_mroIn X0 T.sub) (fun h1 e1 k1 => ?_)
  have X1 : K.In h1 := X0.keeps k1
  have he1 := k1 _ _ he0
  have hns1 : h1.Ns hp.objs.size (fun x => ([(Str.ofString "self", Value.ref e), (n1, v1), (n2, v2)] : List (Str × Value)).reverse.lookup x) := hns.keeps k1
  have I1 : PySem.W.InstAt h1 e (HandSPX.excO C t0) C none := ⟨he1, rfl, rfl, trivial⟩
  have hI : PySem.W.Looks (model prog w) h1 (isInstance (.ref e) (.type "ValueError")) true := I1.type.andThen (PySem.W.looks_subIn X1 T.ve)
  have hsup := T.sup
  unfold PySem.W.ks_superIn at hsup
  rw [hcl] at hsup
  refine W.kxs_getMethod W.kxs_ValueError e1 (PySem.W.looks_opaque X1 T.any) (l₀ := .ref C :: bm) (fun A Q E s k q => wpAny_bind ((PySem.W.looks_clsIn X1 hcl) A _ E s k (wpAny_pure q))) rfl X1 hsup hI (PySem.W.ks_ne X1 I1 hcl) rfl ?_
  have hu : (h1.push (W.kxs_mw "ValueError.__init__" e)).get? h1.objs.size = some (W.kxs_mw "ValueError.__init__" e) := Heap.get?_push_at rfl rfl
  have k2 : ∀ b o, h1.get? b = some o → (h1.push (W.kxs_mw "ValueError.__init__" e)).get? b = some o := fun b o z => Heap.get?_push_of_some _ z
  have hns2 := hns1.keeps k2
  have nm0 : ∀ {h : Heap} {tk : Nat} {x : Str} {v : Value} {p : Pos} {A' : Around} {E' Q' : Value → Shared → Prop}, h.Ns hp.objs.size (fun x => ([(Str.ofString "self", Value.ref e), (n1, v1), (n2, v2)] : List (Str × Value)).reverse.lookup x) → (scope2 n1 n2).names.lookup x = some .local → ([(Str.ofString "self", Value.ref e), (n1, v1), (n2, v2)] : List (Str × Value)).reverse.lookup x = some v → (x == ("__debug__" : Str)) = false → Q' v ⟨h, g, d, tk, os⟩ →
      wpAny (model prog w) A' (eval (.Name x p) (callEnv (PySem.W.fnX "__init__" qual { posonlyargs := [], args := [⟨"self", none, a1⟩, ⟨n1, none, a2⟩, ⟨n2, none, a3⟩], vararg := none, kwonlyargs := [], kw_defaults := [], kwarg := none, defaults := [] } (body2 n1 n2 p1 p2 p3 p4 p5 p6 p7 p8 p9 p10 p11 p12 p13 p14 p15) (scope2 n1 n2) [("__class__", cc)] dV kV doc pm an (.ref cda) ct) hp.objs.size fI)) Q' E' ⟨h, g, d, tk, os⟩ :=
    fun {h tk x v p A' E' Q'} hn hl hv hd q => wpAny_Name (wpAny_loadName_local rfl hl hn hv q) hd
  refine W.kxs_callWith (i := "ValueError.__init__") (x := e) rfl (Calls.evalArgs_plain ?_)
  show wpAny (model prog w) _ (spliced [(false, eval (.Name n1 p4) _), (false, eval (.Name n2 p5) _)]) _ _ _
  refine Calls.spliced_cons (nm0 hns2 l1 m1 T.d1 (Calls.spliced_cons (nm0 hns2 l2 m2 T.d2 (Calls.spliced_nil ⟨hu, ?_⟩))))
  refine bound_ve (h := h1.push (W.kxs_mw "ValueError.__init__" e)) (k2 _ _ (X1 _ _ hC)) (k2 _ _ he1) hu (by show 2 ≤ sizeLine; decide) (fun h3 t1 k3 he3 => ?_)
  -- self.n1 = n1
  have k03 : ∀ b o, b ≠ e → h₀.get? b = some o → h3.get? b = some o := fun b o hb z => k3 b o hb (k2 _ _ (k1 _ _ z))
  have X3 : K.In h3 := fun b o z => k3 b o (fun ee => by rw [ee, hKe] at z; cases z) (k2 _ _ (X1 _ _ z))
  obtain ⟨oL, esL, epL, hL1, hL2⟩ := id hns2
  have hns3 : h3.Ns hp.objs.size (fun x => ([(Str.ofString "self", Value.ref e), (n1, v1), (n2, v2)] : List (Str × Value)).reverse.lookup x) := ⟨oL, esL, epL, k3 _ _ (Ne.symm eL) hL1, hL2⟩
  refine wpAt_of_wpAny (wpAny_execs_cons (plainObj_wpAny_Assign_Attribute (nm0 hns3 l1 m1 T.d1 (nm0 hns3 rfl ms (by decide) ?_)) (by rfl)))
  have hmr : HandSPX.refsVE (.ref C :: bm) = true := hbm
  refine PySem.W.set_plain X3 (ox := HandSPX.excO C t1) (od := none) ⟨he3, rfl, rfl, trivial⟩ T.oex.sa (HandSPX.exc_osa X3 he3 hcl hmr rfl T.f1 (fun h4 tk4 dx k4 dn dne he4 hn4 => ?_))
  have k04 : ∀ b o, b ≠ e → h₀.get? b = some o → h4.get? b = some o := fun b o hb z => k4 b o hb (k03 b o hb z)
  have X4 : K.In h4 := fun b o z => k4 b o (fun ee => by rw [ee, hKe] at z; cases z) (X3 _ _ z)
  obtain ⟨oL, esL, epL, hL1, hL2⟩ := id hns3
  have hns4 : h4.Ns hp.objs.size (fun x => ([(Str.ofString "self", Value.ref e), (n1, v1), (n2, v2)] : List (Str × Value)).reverse.lookup x) := ⟨oL, esL, epL, k4 _ _ (Ne.symm eL) hL1, hL2⟩
  have dxh : hp.objs.size + 1 ≤ dx := by
    obtain ⟨o, _, _, z, _⟩ := id hns3
    have z2 : hp.objs.size < h3.objs.size := Heap.lt_size z
    have z3 : h3.objs.size ≤ dx := dn
    omega
  refine wpAny_execs_cons (plainObj_wpAny_Assign_Attribute (nm0 hns4 l2 m2 T.d2 (nm0 hns4 rfl ms (by decide) ?_)) (by rfl))
  have hw : Within (fun y => if y = n1 then some v1 else none) [n1] := fun y hy => by
    by_cases z : y = n1
    · rw [z]; exact List.mem_cons_self
    · simp [z] at hy
  obtain ⟨oD, esD, epD, hoD, hdD, _⟩ := hn4.count hw
  refine PySem.W.set_plain X4 (od := some oD) ⟨he4, rfl, rfl, hoD⟩ T.oex.sa (OEX.osa_old X4 he4 hn4 hw (by simp) hcl hmr rfl T.f2 (fun h5 tk5 k5 hn5 => ?_))
  refine wpAny_execs_nil ?_
  refine hq h5 tk5 dx t1 (fun b o hb z => ?_) (by omega) dne ?_ hn5
  · have hlt : b < hp.objs.size := Heap.lt_size z
    have nd : b ≠ dx := Nat.ne_of_lt (Nat.lt_of_lt_of_le hlt (Nat.le_of_succ_le dxh))
    exact k5 b o nd (k04 b o hb (hk _ _ z))
  · exact k5 e _ (fun ee => dne ee.symm) he4
end
end Ev
set_option Elab.async false
set_option linter.all false
set_option maxRecDepth 100000
/-! Ev16: raise. -/
namespace Ev
open PySem PySem.Spec PyProof.Rows L2
section
variable {X : Cx} {x : Str} {C fI : Addr} {n1 n2 : Str} {e : Expr} {es : List Expr} {ta : TA} {p pos : Pos}
/-- X(a, b), its __init__ as of Init2 -/
def tMk2 (C : Addr) (n1 n2 : Str) (ta : TA) : L2.St → Hp → XK → Prop := fun σ H Q => ta σ H fun vs H1 => ∃ v1 v2, vs = [v1, v2] ∧ ∀ dx, H1 dx = none → Q (.ref C) (some dx) (L2.upd H1 dx (.xd [(n2, v2), (n1, v1)]))
theorem pmk_ex2 (T : Init2 X.prog X.K C fI n1 n2) (iC : PySem.W.findIn X.K (.ref C) "__init__" = some (some (.ref fI))) (tI : PySem.W.typeIn X.K (.ref fI) = some (.type "function")) (hr : Room 1 X.A) (gs : X.mg "super" = none) (bs : bootBuiltins "super" = some (.type "super")) (hg : Gl X x) (hm : X.mg x = some (.ref C)) (ha : PA X (e :: es) ta)
    (hdb : (x == ("__debug__" : Str)) = false := by decide) (he : starEach (e :: es) X.env = (false, eval e X.env) :: starEach es X.env := by rfl) (hpl : (backTo pos (starEach es X.env)).any (·.1) = false := by rfl) : PMk X (.Call (.Name x p) (e :: es) [] pos) (tMk2 C n1 n2 ta) := by
  intro pins s σ H Q I h
  obtain ⟨nm, q, N, bs2, bm, sn, sub, ab, col, dd, k0, k1, k2, k3, k5, hC, hbm⟩ := T.oex.cls
  refine wpAny_Call_Name_kw (ld_glob I hg hm ?_ hdb)
  refine PySem.W.callWith_K (h₀ := X.base) I.ok.mod.kin T.oex.kC (thn (ha.run pos pins s σ H _ I h) fun us s1 ⟨vs, H1, I1, r1, v1, v2, ev, q1⟩ => ⟨I1.kIn, ?_⟩) he hpl
  subst ev
  obtain ⟨u1, u2, rfl, ru1, ru2⟩ := vals2 r1
  show wpAny _ _ (call (.ref C) [u1, u2]) _ _ _
  obtain ⟨hp, g, dr, tk, os⟩ := s1
  have hsz : hp.objs.size ≤ hp.objs.size + 1 := Nat.le_succ _
  have kk : ∀ b o, hp.get? b = some o → ((hp.push (PySem.W.kdv_tup [u1, u2])).push (PySem.HandSPX.excO C hp.objs.size)).get? b = some o := fun b o z => Heap.get?_push_of_some _ (Heap.get?_push_of_some _ z)
  have hget : ((hp.push (PySem.W.kdv_tup [u1, u2])).push (PySem.HandSPX.excO C hp.objs.size)).get? (hp.objs.size + 1) = some (PySem.HandSPX.excO C hp.objs.size) := by heap_get
  have nE : H1 (hp.objs.size + 1) = none := I1.hok.fresh hsz
  have I2 : Inv X pins σ (L2.upd H1 (hp.objs.size + 1) (exo (hp.objs.size + 1) C none)) ⟨(hp.push (PySem.W.kdv_tup [u1, u2])).push (PySem.HandSPX.excO C hp.objs.size), g, dr, tk, os⟩ :=
    I1.laid (t' := tk) (a := hp.objs.size + 1) (o := exo (hp.objs.size + 1) C none) (h' := (hp.push (PySem.W.kdv_tup [u1, u2])).push (PySem.HandSPX.excO C hp.objs.size)) kk hsz (exo_ok hget)
  have hKe : X.K.lookup (hp.objs.size + 1) = none := by
    cases z : X.K.lookup (hp.objs.size + 1) with
    | none => rfl
    | some o => exact absurd (Heap.lt_size (I1.kIn _ _ z)) (by show ¬ hp.objs.size + 1 < hp.objs.size; exact Nat.not_lt.mpr hsz)
  obtain ⟨mb, hb1, hb2⟩ := I2.mod.blt
  have hus : ([u1, u2] : List Value).length ≤ sizeLine := by show 2 ≤ sizeLine; decide
  refine wpAny_call (PySem.HandSPX.call_own F.excBase_ValueError (fun Y => PySem.HandSPX.refsVE_contains Y bm hbm) (I1.kIn _ _ hC) (PySem.W.looks_findIn I1.kIn iC) (fun self => PySem.W.bind_fn I1.kIn self tI) hus
    (run_init2 T I2.kIn I2.nolimit (I2.mod.glob.keeps I2.bk) (hb1.keeps I2.bk) gs ((hb2 "super" (by decide)).trans bs) (hr.make C [u1, u2] []).depth hKe hget fun h' tk' dx t1 k dn dne hx hn => ?_))
  refine ⟨rfl, ?_⟩
  have l2 : hp.objs.size + 1 < dx := Nat.lt_of_lt_of_le (Heap.lt_size hget) dn
  have hnd : H1 dx = none := I1.hok.fresh (show hp.objs.size ≤ dx from Nat.le_of_lt (Nat.lt_of_le_of_lt hsz l2))
  let a := hp.objs.size + 1
  let Ha := L2.upd H1 a (exo a C none)
  have ea : Ha a = some (exo a C none) := upd_same
  have nd2 : Ha dx = none := by show L2.upd H1 a (exo a C none) dx = none; rw [upd_ne dne]; exact hnd
  let hp2 : Heap := (hp.push (PySem.W.kdv_tup [u1, u2])).push (PySem.HandSPX.excO C hp.objs.size)
  have ltd : ∀ {b : Addr} {o : Obj}, hp2.get? b = some o → b ≠ dx := fun {b o} z => Nat.ne_of_lt (Nat.lt_of_lt_of_le (Heap.lt_size z) dn)
  have na : ∀ {b : Addr}, Ha b = none → b ≠ a := fun {b} n z => by rw [z, ea] at n; cases n
  have rel : ∀ f, RelO (([(n2, v2), (n1, v1)] : List (Str × V)).lookup f) (if f = n2 then some u2 else if f = n1 then some u1 else none) := fun f => by
    rw [lookup_put, lookup_put]
    by_cases z : f = n2
    · rw [if_pos z, if_pos z]; exact ru2
    · rw [if_neg z, if_neg z]
      by_cases y : f = n1
      · rw [if_pos y, if_pos y]; exact ru1
      · rw [if_neg y, if_neg y]; exact True.intro
  have U : Un (frs X.stack) [] Ha (L2.upd (L2.upd Ha dx (exd dx [(n2, v2), (n1, v1)])) a (exo a C (some dx))) hp2 h' := {
    keep := fun b o z n _ _ => k b o (na n) z
    slot := fun b o z n _ _ => ⟨o.slots, k b o (na n) z⟩
    free := fun b o z n _ => by rw [upd_ne (na n), upd_ne (ltd z)]; exact n
    there := fun b o z _ => by
      by_cases hb : b = a
      · exact ⟨_, by rw [hb]; exact hx⟩
      · exact ⟨o, k b o hb z⟩
    tups := fun b xs z => by rw [upd_ne (at_ne ea z exo_tup), upd_ne (ne_of_none z nd2)]; exact z
    frzs := fun b o v z => by rw [upd_ne (at_ne ea z exo_frz), upd_ne (ne_of_none z nd2)]; exact z
    tbls := fun b ps z => ⟨#[], by rw [upd_ne (at_ne ea z exo_tbl), upd_ne (ne_of_none z nd2), z]; simp⟩ }
  have hok2 : HOk X.prog X.w (L2.upd (L2.upd Ha dx (exd dx [(n2, v2), (n1, v1)])) a (exo a C (some dx))) h' := fun b o z => by
    by_cases hb : b = a
    · subst hb
      rw [upd_same] at z
      cases z
      exact exo_ok hx
    · rw [upd_ne hb] at z
      by_cases hd : b = dx
      · subst hd
        rw [upd_same] at z
        cases z
        exact exd_ok hn rel
      · rw [upd_ne hd] at z
        refine (I2.hok b o z).stay (fun c v hc y => k c v ?_ y) (fun c hc => by rw [upd_ne (at_ne ea hc exo_own), upd_ne (ne_of_none hc nd2)]; exact hc) (fun c xs hc => by rw [upd_ne (at_ne ea hc exo_tup), upd_ne (ne_of_none hc nd2)]; exact hc)
        rcases hc with hc | hc
        · rw [hc]; exact hb
        · exact at_ne ea hc exo_own
  refine mk_end (d := dx) (fs := [(n2, v2), (n1, v1)]) (raises_own T.oex.exC T.oex.tyC) I1 hsz kk U hok2 rfl I1.bare upd_same (by rw [upd_ne dne, upd_same]) hnd ?_
  have e2 : L2.upd (del (L2.upd (L2.upd Ha dx (exd dx [(n2, v2), (n1, v1)])) a (exo a C (some dx))) a) dx (.xd [(n2, v2), (n1, v1)]) = L2.upd H1 dx (.xd [(n2, v2), (n1, v1)]) := by
    funext b
    by_cases hd : b = dx
    · rw [hd, upd_same, upd_same]
    · rw [upd_ne hd, upd_ne hd]
      by_cases hb : b = a
      · rw [hb, del_same]; exact nE.symm
      · rw [del_ne hb, upd_ne hb, upd_ne hd]
        exact upd_ne hb
  rw [e2]
  exact q1 dx hnd
end
end Ev
set_option Elab.async false
set_option linter.all false
set_option maxRecDepth 100000
/-! Ev17: try: .. with several clauses, each with a name or without. -/
namespace Ev
open PySem PySem.Spec PyProof.Rows L2
/-- a clause: its class, the slot of its name, its suite -/
abbrev Clause := Value × Option Nat × (Addr → Value → Option Addr → TS)
/-- a suite's ends, the name unbound behind it -/
def unname (i : Nat) (Y : Ends) : Ends := { nx := fun τ H' => Y.nx (τ.set i none) H', rt := Y.rt, bk := fun τ H' => Y.bk (τ.set i none) H', ct := fun τ H' => Y.ct (τ.set i none) H' }
def suiteAt (o : Option Nat) (ts : TS) (a : Addr) (Y : Ends) (σ : L2.St) (H : Hp) : Prop := match o with
  | none => ts Y σ H
  | some i => ts (unname i Y) (σ.set i (some (.ref a))) H
def wEach (K : PySem.W.Frag) (Wout : WX) (Y : Ends) : List Clause → WX
  | [] => Wout
  | (c, o, ts) :: r => fun cls dd σ H => ∃ b, PySem.W.exmOne K cls c = some b ∧ (b = true → ∀ a, H a = none → suiteAt o (ts a cls dd) a Y σ H) ∧ (b = false → wEach K Wout Y r cls dd σ H)
/-- a suite judged -/
def SuitePs (X : Cx) (ss : List Stmt) (ts : Addr → Value → Option Addr → TS) : Prop := ∀ (a : Addr) (ob : Obj) (cls : Value) (dd : Option Addr) (pn : List (Addr × Obj)), Zc cls dd ob → (∃ fs, ob.data = .fields fs) → PSs (X.suite a ((a, ob) :: pn)) ss (ts a cls dd)
inductive ClOk (X : Cx) : List ExceptHandler → List Clause → Prop
  | nil : ClOk X [] []
  | plain {x : Str} {c : Value} {ts : Addr → Value → Option Addr → TS} {s0 : Stmt} {ss : List Stmt} {q1 q2 : Pos} {hds : List ExceptHandler} {l : List Clause} : Names X x c → SuitePs X (s0 :: ss) ts → ClOk X hds l → ClOk X (.ExceptHandler (some (.Name x q1)) none (s0 :: ss) q2 :: hds) ((c, none, ts) :: l)
  | named {x n : Str} {i : Nat} {c : Value} {ts : Addr → Value → Option Addr → TS} {s0 : Stmt} {ss : List Stmt} {q1 q2 : Pos} {hds : List ExceptHandler} {l : List Clause} : X.N[i]? = some n → X.env.kindOf n = some .local → Names X x c → SuitePs X (s0 :: ss) ts → ClOk X hds l → ClOk X (.ExceptHandler (some (.Name x q1)) (some n) (s0 :: ss) q2 :: hds) ((c, some i, ts) :: l)
section
variable {X : Cx} {body : List Stmt} {h0 : ExceptHandler} {hds : List ExceptHandler} {l : List Clause} {pos : Pos} {tb : WX → TS} {Wout : WX}
theorem name_there {x : Str} {c : Value} {q1 : Pos} {a : Addr} {ob : Obj} {pins : List (Addr × Obj)} {τ : L2.St} {H' : Hp} {sh : Shared} {Q : Value → Shared → Prop} {E : Value → Shared → Prop} (nm : Names X x c) (J : Inv (X.suite a ((a, ob) :: pins)) [] τ H' sh) (q : Q c sh) :
    wpAny (model X.prog X.w) (X.A.mark (some (.ref a))) (eval (.Name x q1) X.env) Q E sh := by
  obtain ⟨g, dbg, mm | ⟨mm, bv, nn⟩⟩ := nm
  · exact ld_glob (X := X.suite a ((a, ob) :: pins)) J g mm q dbg
  · exact ld_blt (X := X.suite a ((a, ob) :: pins)) J g mm bv q nn dbg
theorem ps_try_each (hN : X.N.Nodup) (hs : X.stack = X.env :: X.outer) (hf : X.env.frame = some X.env.locals) (tk : Takes X Wout) (hb : ∀ (W : WX) (pn : List (Addr × Obj)) (xe : Value → Shared → Prop), Takes (X.tr pn xe) W → PassesOwn (model X.prog X.w) X.A X.env xe → PSs (X.tr pn xe) body (tb W))
    (hh : ClOk X (h0 :: hds) l) : PS X (.Try body (h0 :: hds) [] [] pos) (fun Y σ H => tb (wEach X.K Wout Y l) Y σ H) := ⟨fun pins s σ H Y I0 q0 => by
  have okX := I0.ok
  have frs1 : X.A.frames = some (X.env :: X.outer) := by rw [okX.frames, hs]
  let xe1 : Value → Shared → Prop := fun e sa => wpAny (model X.prog X.w) X.A (noteFrame e X.env) (fun _ sb => wpAny (model X.prog X.w) X.A (setFlight e none) (fun _ sc => wpAny (model X.prog X.w) X.A (handleBy e X.env (h0 :: hds)) (SP X pins Y) X.xe sc) X.xe sb) X.xe sa
  refine wpAny_Try_except (wpAny_mono ((hb (wEach X.K Wout Y l) (X.pn ++ pins) xe1 (fun ev se xx => ?_) PassesOwn.looking).run [] s σ H Y (I0.toTry _) q0) (fun fl se ends => ?_) (fun ev se z => z))
  · -- an exception is caught
    obtain ⟨a, G0, sI, pins2, τ, H', cls, dd, ea, J0, nb, up, sky, na, os, ag, wish⟩ := xx
    subst ea
    have J : Inv X pins τ H' sI := J0.ofTry okX
    show wpAny (model X.prog X.w) X.A (noteFrame (.ref a) X.env) _ _ _
    refine Sky.land Zc.steady frs1 hf (hs ▸ sky) fun h3 fl3 up3 => ?_
    have J3 : Inv X pins τ H' { se with heap := h3 } := J.landed nb fl3.1 (up.trans up3) os ag
    obtain ⟨ob, fv, at3, z3, dat⟩ := fl3.there
    have out : a ∉ frs (X.env :: X.outer) := fun mem => by
      obtain ⟨_, o2, g2, nf2⟩ := fl3.2.2.1.mem mem
      rw [at3] at g2
      cases g2
      exact nf2 _ dat
    have nL : a ≠ X.env.locals := fun z => out (List.mem_filterMap.mpr ⟨_, List.mem_cons_self, by rw [hf, z]⟩)
    have nF : a ∉ X.fs := fun mem => (List.mem_filterMap.mp mem).elim fun en q => out (List.mem_filterMap.mpr ⟨en, List.mem_cons_of_mem _ q.1, q.2⟩)
    have J4 := J3.suite at3 dat na nL nF
    have goOn : ∀ {hs2 : List ExceptHandler} {l2 : List Clause}, ClOk X hs2 l2 → wEach X.K Wout Y l2 cls dd τ H' → wpAny (model X.prog X.w) X.A (handleBy (.ref a) X.env hs2) (SP X pins Y) X.xe { se with heap := h3 } := by
      intro hs2 l2 ok2
      -- the test of a clause
      have tst : ∀ {x : Str} {c : Value} {q1 : Pos} {b : Bool} {Q : Bool → Shared → Prop} {E : Value → Shared → Prop}, True := fun {_ _ _ _ _ _} => trivial
      have LT : PySem.W.Looks (model X.prog X.w) h3 (typeOf (.ref a)) cls := fun _ _ _ _ k q => wpAny_typeOf_ref (k _ _ at3) (by rw [z3.1]; exact q)
      induction ok2 with
      | nil =>
        intro wl
        refine wpAny_handleBy_nil ?_
        obtain ⟨r1, r2, r3, o5, v5, T5, oT5, tT5, g5, z5, d5, i5, rr5⟩ := id fl3
        unfold PySem.passOn
        refine wpAny_bind (wpAny_field g5 d5 i5 ?_)
        rw [if_neg (by simp)]
        have last : wpAny (model X.prog X.w) X.A (setFlight (.ref a) X.env.frame) (fun _ s6 => wpAny (model X.prog X.w) X.A (throw (.ref a) : Sem Flow) (SP X pins Y) X.xe s6) X.xe { se with heap := h3 } := by
          rw [hf]
          exact HandSPX.setFlight_upZ fl3 fun h6 sk6 up6 => wpAny_throw (tk _ _ ⟨a, G0, sI, pins, τ, H', cls, dd, rfl, J, nb, (up.trans up3).trans up6, .inr (.inr (by rw [hs]; exact sk6)), na, os, ag, wl⟩)
        first
          | exact wpAny_bind (wpAny_pure (wpAny_bind last))
          | exact wpAny_bind last
      | @plain x c ts s0 ss q1 q2 hd2 l2 nm su _ ih =>
        intro wl
        obtain ⟨b, eb, yes, no⟩ := wl
        refine wpAny_handleBy_cons (codeAny_handlers_test (name_there nm J4 ((PySem.W.exm_one (M := model X.prog X.w) J3.kIn LT eb).here ?_))) (fun z => by cases z)
        cases b with
        | false => exact ih (no rfl)
        | true =>
          refine codeAny_handlers_suite (HandSPX.lands_againZ fl3 fun h5 fl5 up5 => ?_)
          obtain ⟨ob5, fv5, at5, z5, dat5⟩ := fl5.there
          have J5 : Inv X pins τ H' { se with heap := h5 } := J.landed nb fl5.1 ((up.trans up3).trans up5) os ag
          have q5 : ts a cls dd Y τ H' := yes rfl a na
          refine wpAny_mono ((su a ob5 cls dd (X.pn ++ pins) z5 ⟨_, dat5⟩).run [] _ _ H' _ (J5.suite at5 dat5 na nL nF) q5) (fun fl s6 z6 => ?_) (fun _ _ z => z.elim)
          cases fl with
          | ret u => exact (let ⟨v6, τ6, H6, S6, r6, q6⟩ := z6; ⟨v6, τ6, H6, S6.unsuite okX, r6, q6⟩)
          | next => exact (let ⟨τ6, H6, S6, q6⟩ := z6; ⟨τ6, H6, S6.unsuite okX, q6⟩)
          | brk => exact (let ⟨τ6, H6, S6, q6⟩ := z6; ⟨τ6, H6, S6.unsuite okX, q6⟩)
          | cont => exact (let ⟨τ6, H6, S6, q6⟩ := z6; ⟨τ6, H6, S6.unsuite okX, q6⟩)
      | @named x n i c ts s0 ss q1 q2 hd2 l2 hi kn nm su _ ih =>
        intro wl
        obtain ⟨b, eb, yes, no⟩ := wl
        refine wpAny_handleBy_cons (codeAny_handlers_test (name_there nm J4 ((PySem.W.exm_one (M := model X.prog X.w) J3.kIn LT eb).here ?_))) (fun z => by cases z)
        cases b with
        | false => exact ih (no rfl)
        | true =>
          refine codeAny_handlers_suite_as (HandSPX.lands_againZ fl3 fun h5 fl5 up5 => ?_)
          obtain ⟨ob5, fv5, at5, z5, dat5⟩ := fl5.there
          have J5 : Inv X pins τ H' { se with heap := h5 } := J.landed nb fl5.1 ((up.trans up3).trans up5) os ag
          have q5 : ts a cls dd (unname i Y) (τ.set i (some (.ref a))) H' := yes rfl a na
          refine store_ok (X := X.suite a ((a, ob5) :: (X.pn ++ pins))) (v := .ref a) (J5.suite at5 dat5 na nL nF) hN hi (.inl kn) rfl (fun s5 S5 => ?_) (.inr kn)
          refine wpAny_mono ((su a ob5 cls dd (X.pn ++ pins) z5 ⟨_, dat5⟩).run [] s5 _ H' _ S5 q5) (fun fl s6 z6 => ?_) (fun _ _ z => z.elim)
          cases fl with
          | ret u => exact (let ⟨v6, τ6, H6, S6, r6, q6⟩ := z6; gone_ok (S6.unsuite okX) hN hi kn fun s7 J7 => ⟨v6, _, H6, J7, r6, q6⟩)
          | next => exact (let ⟨τ6, H6, S6, q6⟩ := z6; gone_ok (S6.unsuite okX) hN hi kn fun s7 J7 => ⟨_, H6, J7, q6⟩)
          | brk => exact (let ⟨τ6, H6, S6, q6⟩ := z6; gone_ok (S6.unsuite okX) hN hi kn fun s7 J7 => ⟨_, H6, J7, q6⟩)
          | cont => exact (let ⟨τ6, H6, S6, q6⟩ := z6; gone_ok (S6.unsuite okX) hN hi kn fun s7 J7 => ⟨_, H6, J7, q6⟩)
    exact goOn hh wish
  · -- none is raised
    cases fl with
    | ret u => exact (let ⟨v6, τ6, H6, S6, r6, q6⟩ := ends; ⟨v6, τ6, H6, S6.ofTry okX, r6, q6⟩)
    | next => exact (let ⟨τ6, H6, S6, q6⟩ := ends; wpAny_execs_nil ⟨τ6, H6, S6.ofTry okX, q6⟩)
    | brk => exact (let ⟨τ6, H6, S6, q6⟩ := ends; ⟨τ6, H6, S6.ofTry okX, q6⟩)
    | cont => exact (let ⟨τ6, H6, S6, q6⟩ := ends; ⟨τ6, H6, S6.ofTry okX, q6⟩)⟩
end
end Ev
set_option Elab.async false
set_option linter.all false
set_option maxRecDepth 100000
/-! Ev18: raise and try, what they mean. -/
namespace Ev
open PySem PySem.Spec PyProof.Rows L2
section
variable {X : Cx} {fa : Nat → Option Addr} {W : WX} {x : Str} {p pos pos2 : Pos} {e : Expr} {es : List Expr} {ms : DA} {C fI : Addr} {c : Nat} {n1 n2 : Str}
theorem REnv.updN {Cc : Cf} {θ : List Addr} {H : Hp} {a : Addr} {u : HO} {ρ : Rho} {σ : L2.St} (hn : H a = Option.none) (h : REnv Cc θ H ρ σ) : REnv Cc θ (L2.upd H a u) ρ σ := h.imp (fun _ _ => SqT.updN hn) (fun _ _ => SqK.updN hn) fun _ _ h => h
def sRaise2 (c : Nat) (n1 n2 : Str) (as : DA) : DS := fun ρ G => (as ρ G).bindS ρ fun ds G => match ds with | [d1, d2] => .exc c [(n2, d2), (n1, d1)] ρ G | _ => .stuck
theorem ss_raise2 (hc : X.calm = true) (tk : Takes X W) (hfa : fa c = some C) (T : Init2 X.prog X.K C fI n1 n2) (iC : PySem.W.findIn X.K (.ref C) "__init__" = some (some (.ref fI))) (tI : PySem.W.typeIn X.K (.ref fI) = some (.type "function")) (hr : Room 1 X.A) (gs : X.mg "super" = none) (bs : bootBuiltins "super" = some (.type "super")) (hg : Gl X x) (hm : X.mg x = some (.ref C)) (ha : SA X fa W (e :: es) ms)
    (hdb : (x == ("__debug__" : Str)) = false := by decide) (he : starEach (e :: es) X.env = (false, eval e X.env) :: starEach es X.env := by rfl) (hpl : (backTo pos (starEach es X.env)).any (·.1) = false := by rfl) : SS X fa W (.Raise (some (.Call (.Name x p) (e :: es) [] pos)) none pos2) (sRaise2 c n1 n2 ms) := by
  refine wkS (ps_raise hc tk (pmk_ex2 T iC tI hr gs bs hg hm ha hdb he hpl)) fun Y σ H ⟨ρ, θ, G, R, e, h⟩ => ?_
  refine ⟨ρ, θ, G, R, e, (h.bind R e).mono fun ds G' θ' H' st R' q vs rl => ?_⟩
  cases rl with
  | nil => exact q.elim
  | @cons d1 _ v1 _ r1 rl =>
    cases rl with
    | nil => exact q.elim
    | @cons d2 _ v2 _ r2 rl =>
      cases rl with
      | cons _ _ => exact q.elim
      | nil =>
        refine ⟨v1, v2, rfl, fun dx hn => ?_⟩
        refine q θ' _ σ (.ref C) (some dx) (Step.newT hn) (R'.out_upd (R'.notin hn) (none_tup hn) (none_frz hn) (none_xd hn)) ((e.step R st).updN hn) ⟨C, hfa, rfl, .inr ⟨dx, _, rfl, upd_same, fun y u l => ?_, fun y l => ?_⟩⟩
        · have key : ∀ {a b : Str} {d d' : D} {v v' : V}, RV (cf X fa) θ' H' d v → RV (cf X fa) θ' H' d' v' → ([(b, d'), (a, d)] : List (Str × D)).lookup y = some u → ∃ w, ([(b, v'), (a, v)] : List (Str × V)).lookup y = some w ∧ RV (cf X fa) θ' H' u w := by
            intro a b d d' v v' k1 k2 l
            rw [List.lookup] at l ⊢
            split at l
            · cases l; exact ⟨v', rfl, k2⟩
            · rw [List.lookup] at l ⊢
              split at l
              · cases l; exact ⟨v, rfl, k1⟩
              · cases l
          obtain ⟨w, e1, e2⟩ := key r1 r2 l
          exact ⟨w, e1, e2.updN hn⟩
        · rw [List.lookup] at l ⊢
          split at l
          · cases l
          · rw [List.lookup] at l ⊢
            split at l
            · cases l
            · rfl
/-- raise X(), X a class without an __init__ of its own -/
theorem pmk_ex0 {bmB : List Value} {B newId initId : String} (F : ExcBaseFacts B newId initId bmB) (q : PySem.W.excIn X.K C bmB newId = true) (hm : X.mg x = some (.ref C)) (kC : PySem.W.keepIn X.K (.ref C) = true) (r : Raises X (.ref C)) (hg : Gl X x) (hdb : (x == ("__debug__" : Str)) = false := by decide) :
    PMk X (.Call (.Name x p) [] [] pos) (fun _ H Q => Q (.ref C) none H) := fun pins s σ H Q I h => by
  refine wpAny_Call_Name_kw (ld_glob I hg hm (PySem.W.callWith_K0 I.kIn kC ?_) hdb)
  obtain ⟨bm, N, nm, qn, bs, hdct, sn, sub, ab, col, dd, k0, k1, k2, k3, k5, mN, hC, hN, hni, T⟩ := exc_obj I.kIn q
  exact wpAny_call_exc_subT F T hC hN hni (fun h' e mk => mk_of I mk r h (I.hok.gone mk.new)) (by show 0 ≤ sizeLine; exact Nat.zero_le _)
def sRaise0 (c : Nat) : DS := fun ρ G => .exc c [] ρ G
theorem ss_raise0 {bmB : List Value} {B newId initId : String} (hc : X.calm = true) (tk : Takes X W) (hfa : fa c = some C) (F : ExcBaseFacts B newId initId bmB) (q : PySem.W.excIn X.K C bmB newId = true) (hm : X.mg x = some (.ref C)) (kC : PySem.W.keepIn X.K (.ref C) = true) (e1 : PySem.W.subIn X.K (.ref C) (.type "BaseException") = some true) (e2 : PySem.W.typeIn X.K (.ref C) = some (.type "type")) (hg : Gl X x) (hdb : (x == ("__debug__" : Str)) = false := by decide) :
    SS X fa W (.Raise (some (.Call (.Name x p) [] [] pos)) none pos2) (sRaise0 c) :=
  wkS (ps_raise hc tk (pmk_ex0 F q hm kC (raises_own e1 e2) hg hdb)) fun Y σ H ⟨ρ, θ, G, R, e, h⟩ => h θ H σ (.ref C) none Step.refl R e ⟨C, hfa, rfl, .inl ⟨rfl, rfl⟩⟩

/-! ### try -/
/-- a clause: which classes it takes, the slot of its name, what its suite does -/
structure Cl where
  takes : Nat → Option Bool
  slot : Option Nat
  suite : Nat → List (Str × D) → DS
def runCl (k : Cl) (c : Nat) (fs : List (Str × D)) (ρ : Rho) (G : GH) : SRes := match k.slot with
  | none => k.suite c fs ρ G
  | some i => match k.suite c fs (ρ.set i none) G with
    | .nx ρ' G' => .nx (ρ'.set i none) G'
    | .bk ρ' G' => .bk (ρ'.set i none) G'
    | .ct ρ' G' => .ct (ρ'.set i none) G'
    | r => r
def handle : List Cl → Nat → List (Str × D) → Rho → GH → SRes
  | [], c, fs, ρ, G => .exc c fs ρ G
  | k :: r, c, fs, ρ, G => match k.takes c with
    | some true => runCl k c fs ρ G
    | some false => handle r c fs ρ G
    | none => .stuck
def sTry (m : DS) (ks : List Cl) : DS := fun ρ G => match m ρ G with
  | .exc c fs ρ' G' => handle ks c fs ρ' G'
  | r => r
/-- a suite does what its meaning says -/
def SuiteRd (Cc : Cf) (o : Option Nat) (ts : Addr → Value → Option Addr → TS) (m : Nat → List (Str × D) → DS) : Prop :=
  ∀ (a : Addr) (cls : Value) (dd : Option Addr) (c : Nat) (fs : List (Str × D)) (ρ : Rho) (θ : List Addr) (G : GH) (σ : L2.St) (H : Hp) (Y : Ends), Rel Cc θ H G → REnv Cc θ H ρ σ → RX Cc θ H c fs cls dd → H a = none →
    PostS Cc θ H WF Y (runCl ⟨fun _ => none, o, m⟩ c fs ρ G) → suiteAt o (ts a cls dd) a Y σ H
inductive ClsRd (Cc : Cf) : List Clause → List Cl → Prop
  | nil : ClsRd Cc [] []
  | cons {cv : Value} {o : Option Nat} {ts : Addr → Value → Option Addr → TS} {k : Cl} {l : List Clause} {ks : List Cl} : (∀ (c : Nat) (A : Addr) (b : Bool), Cc.fa c = some A → k.takes c = some b → PySem.W.exmOne Cc.K (.ref A) cv = some b) → k.slot = o → SuiteRd Cc o ts k.suite → ClsRd Cc l ks → ClsRd Cc ((cv, o, ts) :: l) (k :: ks)
/-- a suite may raise nothing, so a result of it that is wanted is none -/
theorem PostS.noX {Cc : Cf} {θ : List Addr} {H : Hp} {W : WX} {Y : Ends} {r : SRes} (h : PostS Cc θ H W Y r) (hn : ∀ c fs ρ G, r ≠ .exc c fs ρ G) : PostS Cc θ H WF Y r := by
  cases r with
  | exc c fs ρ G => exact absurd rfl (hn c fs ρ G)
  | _ => exact h
def noX (r : SRes) : SRes := match r with | .exc _ _ _ _ => .stuck | r => r
theorem noX_post {Cc : Cf} {θ : List Addr} {H : Hp} {W : WX} {Y : Ends} {r : SRes} (h : PostS Cc θ H W Y (noX r)) : PostS Cc θ H WF Y r := by
  cases r with
  | exc c fs ρ G => exact h.elim
  | _ => exact h
theorem handle_read {Cc : Cf} {Y : Ends} {Wout : WX} {θ : List Addr} {H : Hp} {σ : L2.St} {ρ : Rho} {G : GH} {c : Nat} {fs : List (Str × D)} {cls : Value} {dd : Option Addr} (R : Rel Cc θ H G) (e : REnv Cc θ H ρ σ) (rx : RX Cc θ H c fs cls dd) :
    ∀ {l : List Clause} {ks : List Cl}, ClsRd Cc l ks → PostS Cc θ H Wout Y (handle (ks.map fun k => { k with suite := fun c fs ρ G => noX (k.suite c fs ρ G) }) c fs ρ G) → wEach Cc.K Wout Y l cls dd σ H
  | _, _, .nil, h => h θ H σ cls dd Step.refl R e rx
  | _, _, .cons (k := k) ht ho hs hr, h => by
    obtain ⟨A, h1, h2, h3⟩ := rx
    rw [List.map_cons] at h
    unfold handle at h
    cases q : k.takes c with
    | none => simp only [q] at h; exact h.elim
    | some b =>
      have eb := ht c A b h1 q
      rw [← h2] at eb
      cases b with
      | true =>
        simp only [q] at h
        refine ⟨true, eb, fun _ a na => ?_, fun z => (by cases z)⟩
        refine hs a cls dd c fs ρ θ G σ H Y R e ⟨A, h1, h2, h3⟩ na ?_
        subst ho
        unfold runCl at h ⊢
        cases qs : k.slot with
        | none =>
          simp only [qs] at h ⊢
          exact noX_post h
        | some i =>
          simp only [qs] at h ⊢
          cases qr : k.suite c fs (ρ.set i none) G with
          | exc c2 f2 r2 g2 => rw [qr] at h; exact h.elim
          | nx _ _ => rw [qr] at h; exact h
          | bk _ _ => rw [qr] at h; exact h
          | ct _ _ => rw [qr] at h; exact h
          | rt _ _ => rw [qr] at h; exact h
          | stuck => rw [qr] at h; exact h.elim
      | false =>
        simp only [q] at h
        exact ⟨false, eb, fun z => (by cases z), fun _ => handle_read R e ⟨A, h1, h2, h3⟩ hr h⟩
def mute (ks : List Cl) : List Cl := ks.map fun k => { k with suite := fun c fs ρ G => noX (k.suite c fs ρ G) }
theorem ss_try {body : List Stmt} {h0 : ExceptHandler} {hds : List ExceptHandler} {l : List Clause} {ks : List Cl} {m : DS} (hN : X.N.Nodup) (hs : X.stack = X.env :: X.outer) (hf : X.env.frame = some X.env.locals) (tk : Takes X W)
    (hb : ∀ (W : WX) (pn : List (Addr × Obj)) (xe : Value → Shared → Prop), Takes (X.tr pn xe) W → PassesOwn (model X.prog X.w) X.A X.env xe → SSs (X.tr pn xe) fa W body m) (hh : ClOk X (h0 :: hds) l) (hk : ClsRd (cf X fa) l ks) :
    SS X fa W (.Try body (h0 :: hds) [] [] pos) (sTry m (mute ks)) := by
  refine wkS (ps_try_each (tb := fun W => canS (cf X fa) W m) hN hs hf tk hb hh) fun Y σ H ⟨ρ, θ, G, R, e, h⟩ => ⟨ρ, θ, G, R, e, ?_⟩
  unfold sTry at h
  cases q : m ρ G with
  | exc c fs ρ' G' =>
    rw [q] at h
    exact fun θ' H' σ' cls dd st R' e' rx => handle_read R' e' rx hk (PostS.from st h)
  | nx _ _ => rw [q] at h; exact h
  | bk _ _ => rw [q] at h; exact h
  | ct _ _ => rw [q] at h; exact h
  | rt _ _ => rw [q] at h; exact h
  | stuck => rw [q] at h; exact h.elim
/-- a suite without a name -/
theorem plain_rd {Cc : Cf} {m : DS} : SuiteRd Cc none (fun _ _ _ => canS Cc WF m) (fun _ _ => m) := fun a cls dd c fs ρ θ G σ H Y R e rx na h => ⟨ρ, θ, G, R, e, h⟩
theorem plain_ps {ss : List Stmt} {m : DS} (h : ∀ (a : Addr) (ob : Obj) (pn : List (Addr × Obj)), SSs (X.suite a ((a, ob) :: pn)) fa WF ss m) : SuitePs X ss (fun _ _ _ => canS (cf X fa) WF m) := fun a ob cls dd pn _ _ => h a ob pn

/-! return (text, err.f, err.g) -/
def sTell (c0 i : Nat) (t f1 f2 : Str) : Nat → List (Str × D) → DS := fun c fs ρ G => if c = c0 ∧ i < ρ.length then (match fs.lookup f1, fs.lookup f2 with | some d1, some d2 => .rt (mkTup [.p (.str t), d1, d2]) G | _, _ => .stuck) else .stuck
def tsTell (C : Addr) (i : Nat) (t f1 f2 : Str) : Addr → Value → Option Addr → TS := fun a cls dd => tRet (tTup (tCons (tC (.str t)) (tCons (tXf a cls dd C f1 (tVar i)) (tCons (tXf a cls dd C f2 (tVar i)) tNil))))
theorem tell_ps {i k0 k1 : Nat} {n t f1 f2 : Str} {q1 q2 q3 q4 q5 q6 q7 : Pos} (T : XfC X.K C) (h1 : PySem.W.findIn X.K (.ref C) f1 = some none) (h2 : PySem.W.findIn X.K (.ref C) f2 = some none) (hN : X.N[i]? = some n) (hv : Vis X.env.scope n) (hd : (n == ("__debug__" : Str)) = false) (hcd : (n == ("__classdict__" : Str)) = false)
    (b1 : attributeBase (.Name n q3) f1 X.env (eval (.Name n q3) X.env) = eval (.Name n q3) X.env := by rfl) (b2 : attributeBase (.Name n q5) f2 X.env (eval (.Name n q5) X.env) = eval (.Name n q5) X.env := by rfl)
    (s1 : starEach [.Constant (.str t) k0 q2, .Attribute (.Name n q3) f1 q4, .Attribute (.Name n q5) f2 q6] X.env = (false, eval (.Constant (.str t) k0 q2) X.env) :: starEach [.Attribute (.Name n q3) f1 q4, .Attribute (.Name n q5) f2 q6] X.env := by rfl)
    (s2 : starEach [.Attribute (.Name n q3) f1 q4, .Attribute (.Name n q5) f2 q6] X.env = (false, eval (.Attribute (.Name n q3) f1 q4) X.env) :: starEach [.Attribute (.Name n q5) f2 q6] X.env := by rfl)
    (s3 : starEach [.Attribute (.Name n q5) f2 q6] X.env = (false, eval (.Attribute (.Name n q5) f2 q6) X.env) :: starEach [] X.env := by rfl) :
    SuitePs X [.Return (some (.Tuple [.Constant (.str t) k0 q2, .Attribute (.Name n q3) f1 q4, .Attribute (.Name n q5) f2 q6] k1 q7)) q1] (tsTell C i t f1 f2) := fun a ob cls dd pn hz hfl =>
  pss_one (ps_ret (pe_tup (pa_cons (X := X.suite a ((a, ob) :: pn)) pe_str (pa_cons (X := X.suite a ((a, ob) :: pn)) (pe_xf T h1 hz hfl (pe_var (X := X.suite a ((a, ob) :: pn)) hN hv hd hcd) b1) (pa_cons (X := X.suite a ((a, ob) :: pn)) (pe_xf T h2 hz hfl (pe_var (X := X.suite a ((a, ob) :: pn)) hN hv hd hcd) b2) pa_nil s3) s2) s1)))
theorem tell_rd {Cc : Cf} {i c0 : Nat} {t f1 f2 : Str} (hc : Cc.fa c0 = some C) : SuiteRd Cc (some i) (tsTell C i t f1 f2) (sTell c0 i t f1 f2) := fun a cls dd c fs ρ θ G σ H Y R e rx na h => by
  obtain ⟨A, h1, h2, h3⟩ := rx
  unfold runCl sTell at h
  simp only at h
  by_cases ec : c = c0 ∧ i < (ρ.set i none).length
  · rw [if_pos ec] at h
    obtain ⟨ec, hi0⟩ := ec
    subst ec
    rw [hc] at h1
    cases h1
    cases l1 : fs.lookup f1 with
    | none => simp only [l1] at h; exact h.elim
    | some d1 =>
      cases l2 : fs.lookup f2 with
      | none => simp only [l1, l2] at h; exact h.elim
      | some d2 =>
        simp only [l1, l2] at h
        rcases h3 with ⟨z, _⟩ | ⟨d, vs, ed, hd, hl, _⟩
        · subst z; cases l1
        · obtain ⟨v1, k1, r1⟩ := hl f1 d1 l1
          obtain ⟨v2, k2, r2⟩ := hl f2 d2 l2
          have hi : i < σ.length := by rw [← e.1]; simpa using hi0
          · have at_ : (σ.set i (some (.ref a)))[i]? = some (some (.ref a)) := List.getElem?_set_self hi
            refine ⟨.ref a, at_, rfl, h2, d, vs, v1, ed, hd, k1, .ref a, at_, rfl, h2, d, vs, v2, ed, hd, k2, by show 3 ≤ sizeLine; decide, fun p hp => ?_⟩
            obtain ⟨st, R2, rv⟩ := pair_step R hp (.cons (.p (.str t)) (.cons r1 (.cons r2 .nil)))
            exact h θ _ (.ref p) st R2 rv
  · rw [if_neg ec] at h; exact h.elim
end
end Ev
set_option Elab.async false
set_option linter.all false
set_option maxRecDepth 100000
/-! Ev19: enumerate of a tuple. -/
namespace Ev
open PySem PySem.Spec PyProof.Rows L2
set_option maxHeartbeats 1000000 in
theorem meets_en1 {v : Value} {o : Obj} {H : Heap → Prop} (B : Begins v o H) : Meets (Builtin.«enumerate.__new__» ⟨[.type "enumerate", v], []⟩) (fun _ R s => H s.heap ∧ R (.ok (.ret (.ref (s.heap.push o).objs.size))) { s with heap := (s.heap.push o).push { cls := .type "enumerate", data := .fields #[.none, .bool false, .ref s.heap.objs.size, rawInt 0, .none, .none] } }) :=
  .of_wp fun prog w A R s h => by
    obtain ⟨hp, g, d, tk, os⟩ := s
    obtain ⟨h1, h⟩ := h
    have hsub := sub_enumerate
    have go : ∀ {A2 : Around} {E2 Q2 : Value → Shared → Prop}, Q2 (.ref hp.objs.size) ⟨hp.push o, g, d, tk, os⟩ → wpAny (model prog w) A2 (pyIter v) Q2 E2 ⟨hp, g, d, tk, os⟩ := fun q => B.iter prog w _ _ ⟨hp, g, d, tk, os⟩ _ h1 q
    wp_walk using go
    refine wpAny_stack_any fun st => wpAny_pure ?_
    split
    · rename_i c _ _ _ _ _
      cases (c == Value.type "enumerate") <;> (wp_walk using go; exact ⟨_, rfl, h⟩)
    · wp_walk using go
      exact ⟨_, rfl, h⟩
section
variable {prog : Program} {w : World} {A : Around} {E : Value → Shared → Prop} {s : Shared}
theorem call_en1 {v : Value} {o : Obj} {H : Heap → Prop} {Q : Value → Shared → Prop} (B : Begins v o H) (h1 : H s.heap)
    (h : ∀ h', IsEnum h' (s.heap.objs.size + 1) s.heap.objs.size 0 .none → h'.get? s.heap.objs.size = some o → (∀ b o, s.heap.get? b = some o → h'.get? b = some o) → Q (.ref (s.heap.objs.size + 1)) { s with heap := h' }) :
    wpAny (model prog w) A (call (.type "enumerate") [v]) Q E s := by
  refine callType_new F.called_enumerate (by decide) (F.typeCall_enumerate_1 _) (F.newCall_enumerate_1 _) (fun obj => F.args_object_init_2 obj _) F.entry_enumerate_new (meets_en1 B) ⟨h1, ?_⟩
  have sz : (s.heap.push o).objs.size = s.heap.objs.size + 1 := Heap.size_push ..
  have e2 := Heap.get?_push_size (s.heap.push o) (o := { cls := .type "enumerate", data := .fields #[.none, .bool false, .ref s.heap.objs.size, rawInt 0, .none, .none] }) rfl
  show _ ∧ _
  rw [sz]
  rw [sz] at e2
  exact ⟨⟨_, e2, rfl⟩, h _ e2 (Heap.get?_push_of_some _ (Heap.get?_push_size _ B.free)) fun b o x => Heap.get?_push_of_some _ (Heap.get?_push_of_some _ x)⟩
end
/-- the tuple at a, each item with its number in a new pair -/
def IteT (K : PySem.W.Frag) (a : Addr) : It :=
  ⟨fun i H => ∃ (xs : List V) (x : V), SqT K H a xs ∧ xs[i]? = some x, fun i H v H' => ∃ T x, v = .ref T ∧ H T = none ∧ H' = L2.upd H T (.tup [.int (i : Nat), x]) ∧ ∀ xs, SqT K H a xs → xs[i]? = some x, fun i H => ∃ xs : List V, SqT K H a xs ∧ xs.length = i⟩
theorem turn_enT {P : Program} {w : World} {K : PySem.W.Frag} {elts : List Expr} {kk : Nat} {tpos : Pos} (a e it : Addr) (ha : a ≠ it) (ha2 : a ≠ e) :
    Turn P w K (.Tuple elts kk tpos) (IteT K a) [e, it] e (fun i h => (∃ old, IsEnum h e it ((i : Nat) : Int) old) ∧ h.IsTupleIter it a i ∧ e ≠ it) where
  mem := List.mem_cons_self
  obj := fun i h st b hb => by
    obtain ⟨⟨old, he⟩, ⟨o, ho, hc, hd⟩, _⟩ := st
    rcases List.mem_cons.mp hb with z | hb
    · rw [z]; exact ⟨_, he, fun v q => nomatch q⟩
    · rw [List.mem_singleton.mp hb]; exact ⟨o, ho, fun v q => by rw [hd] at q; cases q⟩
  keep := fun i h h' st k => let ⟨⟨old, he⟩, hi, hne⟩ := st; ⟨⟨old, k e (by simp) _ he⟩, hi.at fun o q => k it (by simp) o q, hne⟩
  item := by
    intro X hP hw hK hc i pins s σ H E I hf st hg
    subst hP hw hK
    obtain ⟨⟨old, he⟩, hit, hne⟩ := st
    obtain ⟨xs, x, hq, hx⟩ := hg
    obtain ⟨its, rv, pt, hz⟩ := I.tuple hq
    obtain ⟨u, hu, ru⟩ := rv.get hx
    have le : e < s.heap.objs.size := Heap.lt_size he
    have li : it < s.heap.objs.size := by obtain ⟨_, q, _⟩ := hit; exact Heap.lt_size q
    have D := Draws.tuple (prog := X.prog) (w := X.w) (A := X.A.in1) (show X.A.in1.handled = none from I.ok.hd hc) it a ha its.toArray
    have hlt : i < its.toArray.size := by rw [List.size_toArray]; exact (List.getElem?_eq_some_iff.mp hu).1
    refine wpAny_pyNext_enum_itemC D he ⟨hit, pt⟩ hlt hne (by simp only [List.mem_cons, List.not_mem_nil, or_false]; rintro (z | z); exact hne z; exact ha2 z.symm) fun y h' tk hy ho hst hT hsz hk => ?_
    have ey : y = u := by
      have : its[i]? = some y := by simpa using hy
      rw [hu] at this
      exact (Option.some.inj this).symm
    subst ey
    refine ⟨_, rfl, wpAny_letOwnedTupleGo_enum (s := { s with heap := h', toks := tk + 1 }) ho fun h2 he2 sb => ?_⟩
    have hT2 : h2.get? s.heap.objs.size = some { cls := .type "tuple", data := .seq #[.int i tk, y] } := (sb.2 _ (Nat.ne_of_gt le)).trans hT
    have nw : ObjOk X.prog X.w (L2.upd H s.heap.objs.size (.tup [.int (i : Nat), x])) h2 s.heap.objs.size (.tup [.int (i : Nat), x]) := ⟨by show 2 ≤ sizeLine; decide, [.int i tk, y], .cons ⟨_, rfl⟩ (.cons ru .nil), ⟨_, hT2, rfl, _, rfl⟩⟩
    have I1 : Inv X pins σ (L2.upd H s.heap.objs.size (.tup [.int (i : Nat), x])) { s with heap := h2, toks := tk + 1 } := I.turnedNew (ch := [e, it]) (fun b ob hb q => (sb.2 b (fun z => hb (by simp [z]))).trans (hk b ob (fun z => hb (by simp [z])) (fun z => hb (by simp [z])) q)) hf (Nat.le_refl _) nw
    have e1 : ((i + 1 : Nat) : Int) = (i : Int) + 1 := by omega
    refine ⟨.ref s.heap.objs.size, _, I1, rfl, ⟨_, x, rfl, I.hok.fresh (Nat.le_refl _), rfl, fun ys hy2 => ?_⟩, ⟨⟨y, by rw [e1]; exact he2⟩, hst.1.at fun o q => (sb.2 it (Ne.symm hne)).trans q, hne⟩, fun b hb => ?_⟩
    · have := I.tuple_inj hy2 hq
      rw [this]; exact hx
    · have lb : b < s.heap.objs.size := by
        rcases List.mem_cons.mp hb with z | z
        · rw [z]; exact le
        · rw [List.mem_singleton.mp z]; exact li
      rw [upd_ne (Nat.ne_of_lt lb)]
      exact (hf b hb).1
  done := by
    intro X hP hw hK hc i pins s σ H E I hf st hg
    subst hP hw hK
    obtain ⟨⟨old, he⟩, hit, hne⟩ := st
    obtain ⟨xs, hq, hx⟩ := hg
    obtain ⟨its, rv, pt, hz⟩ := I.tuple hq
    obtain ⟨f0, f1, f2, f3, f4, f5⟩ := hf it (by simp)
    have D := Draws.tuple (prog := X.prog) (w := X.w) (A := X.A.in1) (show X.A.in1.handled = none from I.ok.hd hc) it a ha its.toArray
    have ei : its.toArray.size = i := by rw [List.size_toArray, ← hx, rv.length]
    exact wpAny_pyNext_enum_endD D he (by rw [ei]; exact ⟨hit, pt⟩) fun h' eb => ⟨rfl, I.turned (t' := s.toks) (fun b o hb q => eb b o hb q) f0 f1 f3 f4 f5⟩
  self := fun A i s Q E st h => let ⟨⟨_, he⟩, _⟩ := st; wpAny_pyIter_enum he h
def iEnumT (K : PySem.W.Frag) (ta : TA) : TI := fun σ H R => ta σ H fun vs H1 => ∃ a xs, vs = [.ref a] ∧ SqT K H1 a xs ∧ R (IteT K a) H1
theorem pi_enumT {X : Cx} {e : Expr} {ta : TA} {p pos tpos : Pos} {elts : List Expr} {kk : Nat} (hg : Gl X "enumerate") (hm : X.mg "enumerate" = none) (ha : PA X [e] ta) (hs : starEach [e] X.env = [(false, eval e X.env)] := by rfl) :
    PI X (.Tuple elts kk tpos) (.Call (.Name "enumerate" p) [e] [] pos) (iEnumT X.K ta) := by
  refine ⟨fun pins s σ H R I h => ?_⟩
  refine Call_ (ld_blt I hg hm boot_enumerate (PyProof.Rows.callWith_type1 (thn (ha.run pos pins s σ H _ I h) fun us s1 ⟨vs, H1, I1, r1, q1⟩ => ?_) hs rfl))
  obtain ⟨a, xs, ex, hq, q⟩ := q1
  subst ex
  cases r1 with
  | cons r rr =>
    cases rr
    cases r
    obtain ⟨its, rv, p', hz⟩ := I1.tuple hq
    have pT : s1.heap.IsTuple a its.toArray := p'
    have la : a < s1.heap.objs.size := by obtain ⟨_, q, _⟩ := pT; exact Heap.lt_size q
    refine call_en1 (begins_tuple a its.toArray) pT fun h' he hit hk => wpAny_pyIter_enum he ?_
    have I2 : Inv X pins σ H1 { s1 with heap := h' } := I1.kept (t' := s1.toks) hk
    refine ⟨s1.heap.objs.size + 1, [s1.heap.objs.size + 1, s1.heap.objs.size], _, _, H1, rfl, I2, turn_enT a (s1.heap.objs.size + 1) s1.heap.objs.size (Nat.ne_of_lt la) (Nat.ne_of_lt (Nat.lt_succ_of_lt la)), ⟨⟨.none, he⟩, ⟨_, hit, rfl, rfl⟩, Nat.succ_ne_self _⟩, fun b hb => ?_, q⟩
    have hle : s1.heap.objs.size ≤ b := by
      rcases List.mem_cons.mp hb with z | z
      · rw [z]; exact Nat.le_add_right _ _
      · rw [List.mem_singleton.mp z]; exact Nat.le_refl _
    exact I1.fpOk hle (I1.hok.fresh hle)
def srcET (ds : List D) : Src := ⟨ds.length, fun _ k => (ds[k]?).map fun d => mkTup [.p (.int k), d], fun _ => true⟩
section
variable {C : Cf} {θ0 : List Addr} {H0 : Hp}
theorem ItOk.enumT {G0 : GH} {ds : List D} {a : Addr} {xs : List V} (R0 : Rel C θ0 H0 G0) (hs : SqT C.K H0 a xs) (r : RVL C θ0 H0 ds xs) : ItOk C (IteT C.K a) (srcET ds) θ0 H0 where
  turn := fun k θ H G d st R hk h => by
    have h' : (ds[k]?).map (fun d => mkTup [.p (.int k), d]) = some d := h
    rw [Option.map_eq_some_iff] at h'
    obtain ⟨d1, p1, ed⟩ := h'
    subst ed
    obtain ⟨v, hv, rv⟩ := (r.step R0 st).get p1
    have e := SqT.step R0 st hs
    refine ⟨⟨xs, v, e, hv⟩, fun x H' y => ?_⟩
    obtain ⟨T, x1, ex, hT, eH, f1⟩ := y
    subst ex eH
    have e1 : x1 = v := Option.some.inj ((f1 xs e).symm.trans hv)
    subst e1
    exact pair_step R hT (.cons (.p (.int _)) (.cons rv .nil))
  stop := fun θ H G st R h => ⟨xs, SqT.step R0 st hs, r.length.symm⟩
end
def iEnT (ma : DA) : MI := fun ρ G => (ma ρ G).bind fun ds G => match ds with | [d] => oM ((itemsOf d).map srcET) G | _ => .stuck
section
variable {X : Cx} {fa : Nat → Option Addr} {W : WX}
theorem si_enumT {e : Expr} {ma : DA} {p pos tpos : Pos} {elts : List Expr} {kk : Nat} (hg : Gl X "enumerate") (hm : X.mg "enumerate" = none) (ha : SA X fa W [e] ma) (hs : starEach [e] X.env = [(false, eval e X.env)] := by rfl) :
    SI X fa W (.Tuple elts kk tpos) (.Call (.Name "enumerate" p) [e] [] pos) (iEnT ma) := by
  refine wkI (pi_enumT hg hm ha hs) fun σ H Q ⟨ρ, θ, G, R, e, h⟩ => ?_
  refine runA R e h fun ds G1 θ1 H1 vs st1 R1 e1 rv h1 => ?_
  cases rv with
  | nil => exact h1.elim
  | cons r1 rv =>
    cases rv with
    | cons _ _ => exact h1.elim
    | nil =>
      rename_i d v
      have h1' : PostG (cf X fa) θ1 H1 (oM ((itemsOf d).map srcET) G1) _ _ := h1
      cases q : itemsOf d with
      | none => rw [q] at h1'; exact h1'.elim
      | some ds =>
        rw [q] at h1'
        obtain ⟨a, xs, ev, hs, rl⟩ := items_rel q r1
        subst ev
        exact ⟨a, xs, rfl, hs, h1' θ1 H1 Step.refl R1 _ (ItOk.enumT (C := cf X fa) R1 hs rl)⟩
end
end Ev
set_option Elab.async false
set_option linter.all false
set_option maxRecDepth 100000
/-! Ev20: the head: a law's def by Ok1 (its caller makes no object's text). -/
namespace Ev
open PySem PySem.Spec PyProof.Rows L2
section
variable {P : Program} {w : World} {K : PySem.W.Frag} {mg mb : Str → Option Value} {k : Nat} {fa a : Addr} {fd : FuncData} {x : Str} {sp : Sp} {t : Shared} {us : List Value} {ns : List Int}
/-- what the caller sees -/
abbrev Told (t : Shared) : Result → Shared → Prop := fun r t' => r = .ok (.ret (.bool true)) ∧ OldK t.heap t'.heap ∧ t'.os = t.os ∧ AllBare t'.gens
/-- the script's list is the only thing that may be tracked -/
structure Held (K : PySem.W.Frag) (a : Addr) (t : Shared) (P : Program) (w : World) (H : Hp) : Prop where
  only : Only H
  ok : HOk P w H t.heap
  at_ : ∀ b, H b ≠ none → b = a
  out : H a ≠ none → K.lookup a = none
theorem head_run {H : Hp} {vs : Array Value} (hh : Held K a t P w H) (KX : K.In t.heap) (hns : t.heap.Ns mainGlobals mg) (hb : t.heap.Ns builtinsNs mb) (hbb : ∀ y : Str, y ≠ "__name__" → mb y = bootBuiltins y)
    (hlim : t.heap.NoLimit) (hg : t.gens = #[]) (ha : t.heap.get? a = some { cls := .type "list", data := .seq vs }) (hr : Room k callerA)
    (F : ∀ bs : Heap, K.In bs → bs.Ns mainGlobals mg → Ok1 P w K mg bs k fa fd [x] sp) (bind1 : ∀ (s : Shared) (u : Value), BindsTo s fd ⟨[u], []⟩ [(x, u)])
    (hsp : sp [.ref a] H (fun v _ => v = .bl true) fun _ _ _ => False) : codeAny (model P w) callerA (.call (.ref fa) ⟨[.ref a], []⟩) (Told t) t := by
  have free : ∀ {b : Addr} {o : Obj}, t.heap.get? b = some o → (∀ {es ep}, o.data = .dict es ep → H b = none) := fun {b o} e es ep d => by
    cases q : H b with
    | none => rfl
    | some u =>
      have z := hh.at_ b (by rw [q]; exact Option.some_ne_none u)
      rw [z, ha] at e
      cases e
      cases (show Data.seq vs _ = Data.dict es ep from d)
  have lift : ∀ {b : Addr} {m : Str → Option Value}, t.heap.Ns b m → (hidT t.heap H).Ns b m := fun hN => by
    obtain ⟨o, es, ep, e, d, r⟩ := hN
    exact ⟨o, es, ep, hidT_get e (free e d), d, r⟩
  have kin : K.In (hidT t.heap H) := fun b o e => by
    refine hidT_get (KX b o e) ?_
    cases q : H b with
    | none => rfl
    | some u =>
      have z := hh.at_ b (by rw [q]; exact Option.some_ne_none u)
      rw [z] at q e
      rw [hh.out (by rw [q]; exact Option.some_ne_none u)] at e
      cases e
  obtain ⟨mc, l1, l2⟩ := hlim
  have envs : Env0 P w K mg (hidT t.heap H) callerA [] t H := ⟨rfl, ⟨kin, lift hns, ⟨mb, lift hb, hbb⟩, ⟨mc, lift l1, l2⟩⟩, fun b o e => of_hidT e, Nat.le_of_eq (hidT_size t.heap H), trivial, fun b m => (List.not_mem_nil m).elim, hh.ok, .of_eq hg⟩
  refine codeAny_mono ((F _ kin (lift hns)).go callerA [] t H ⟨[.ref a], []⟩ [.ref a] [.ref a] _ _ hr rfl envs (bind1 t _) (.cons rfl .nil) hsp) fun r t' h => ?_
  match r, h with
  | .error e, h =>
    obtain ⟨_, _, _, _, _, _, _, _, _, _, _, _, z⟩ := h
    exact z.elim
  | .ok (.ret u), h =>
    obtain ⟨v, H', os, bare, un, hok2, rl, q⟩ := h
    have e1 : v = .bl true := q
    rw [e1] at rl
    have e2 : u = Value.bool true := rl
    refine ⟨by rw [e2], OldK.of_keep fun b o e => ?_, os, bare⟩
    rcases hh.only b with z | ⟨ob, xs, z⟩
    · exact un.keep b o e z (fun m => (List.not_mem_nil m).elim) (fun m => (List.not_mem_nil m).elim)
    · obtain ⟨f1, _⟩ := hh.ok b _ z
      obtain ⟨f2, _⟩ := hok2 b _ (un.frzs b ob _ z)
      rw [f1] at e
      cases e
      exact f2
theorem head_call (KX : K.In t.heap) (hns : t.heap.Ns mainGlobals mg) (hb : t.heap.Ns builtinsNs mb) (hbb : ∀ y : Str, y ≠ "__name__" → mb y = bootBuiltins y) (hlim : t.heap.NoLimit) (hg : t.gens = #[])
    (ha : t.heap.get? a = some { cls := .type "list", data := .seq us.toArray }) (hi : IntsAre us ns) (hl : ns.length ≤ sizeLine) (hr : Room k callerA)
    (F : ∀ bs : Heap, K.In bs → bs.Ns mainGlobals mg → Ok1 P w K mg bs k fa fd [x] sp) (bind1 : ∀ (s : Shared) (u : Value), BindsTo s fd ⟨[u], []⟩ [(x, u)])
    (hsp : ∀ H : Hp, Only H → SqL K H a (ns.map V.int) → sp [.ref a] H (fun v _ => v = .bl true) fun _ _ _ => False) : codeAny (model P w) callerA (.call (.ref fa) ⟨[.ref a], []⟩) (Told t) t := by
  have rv := vals_ints hi
  cases hk : K.lookup a with
  | some o =>
    have e := KX a o hk
    rw [ha] at e
    cases e
    have h0 : Held K a t P w (fun _ => none) := ⟨fun _ => .inl rfl, fun b u z => (by cases (show (none : Option HO) = some u from z)), fun b z => absurd rfl z, fun z => absurd rfl z⟩
    exact head_run h0 KX hns hb hbb hlim hg ha hr F bind1 (hsp _ h0.only (.inr ⟨_, us.toArray, _, hk, rfl, rfl, rfl, by rw [List.size_toArray, hi.length]; exact hl, by simpa using rv⟩))
  | none =>
    have at1 : ∀ b u, (if b = a then some (HO.frz { cls := .type "list", data := .seq us.toArray } (.lst (ns.map V.int))) else none) = some u → b = a ∧ u = .frz { cls := .type "list", data := .seq us.toArray } (.lst (ns.map V.int)) := fun b u z => by
      split at z
      · rename_i e; exact ⟨e, (Option.some.inj z).symm⟩
      · cases z
    have h0 : Held K a t P w (fun b => if b = a then some (.frz { cls := .type "list", data := .seq us.toArray } (.lst (ns.map V.int))) else none) := by
      refine ⟨fun b => ?_, fun b u z => ?_, fun b z => ?_, fun _ => hk⟩
      · show (if b = a then _ else _) = _ ∨ _
        split
        · exact .inr ⟨_, _, rfl⟩
        · exact .inl rfl
      · obtain ⟨e1, e2⟩ := at1 b u z
        subst e1 e2
        exact ⟨ha, by rw [List.length_map]; exact hl, us, _, rv, ha⟩
      · cases q : (if b = a then some (HO.frz { cls := .type "list", data := .seq us.toArray } (.lst (ns.map V.int))) else none) with
        | none => exact absurd q z
        | some u => exact (at1 b u q).1
    exact head_run h0 KX hns hb hbb hlim hg ha hr F bind1 (hsp _ h0.only (.inl (.inr ⟨_, if_pos rfl⟩)))
end
/-- a law's def answers the truth -/
def LawOk (P : Program) (w : World) (K : PySem.W.Frag) (k n : Nat) (x : Str) (mg : Str → Option Value) (fa : Addr) : Prop :=
  ∃ (fd : FuncData) (sp : Sp), (∀ (s : Shared) (u : Value), BindsTo s fd ⟨[u], []⟩ [(x, u)]) ∧ (∀ bs : Heap, K.In bs → bs.Ns mainGlobals mg → Ok1 P w K mg bs k fa fd [x] sp) ∧
    ∀ (H : Hp) (a : Addr) (ns : List Int), ns.length ≤ n → Only H → SqL K H a (ns.map V.int) → sp [.ref a] H (fun v _ => v = .bl true) fun _ _ _ => False
/-- the goal that is left of a law, from what its def keeps -/
theorem walk1 {l : PySem.W.OpenLaw} {n k : Nat} {q : Program} {loose : List Str} {XP : (Str → Option Value) → Heap → Prop} {YP : World → Heap → Prop} {d : DefRec} {K : Params → PySem.W.Frag} {x : Str}
    (hn : l.most = some n) (hn2 : n ≤ sizeLine) (hdf : d.params.defaults = []) (hr : Room k callerA) (hY : ∀ (w : World) (h : Heap), YP w h → (K w.params).In h)
    (F : ∀ (w : World) (mg : Str → Option Value) (fa : Addr) (h : Heap), (K w.params).In h → h.Ns mainGlobals mg → mg d.name = some (.ref fa) → LawOk l.prog w (K w.params) k n x mg fa) :
    PySem.W.WalkO q loose XP YP l.row.toRowW d [] (fun f vs => PySem.call f vs) := by
  refine Att.attach_call hn hdf fun w s₀ t mg mb fa o pm cd doc a us ns G Y ho hd hcd hmg hobj hints hlen hg => ?_
  obtain ⟨fd, sp, hb, hF, hsp⟩ := F w mg fa _ (hY w _ Y) G.T.g hmg
  exact head_call (hY w _ Y) G.T.g G.T.b G.T.builtins G.T.nolimit hg hobj hints (Nat.le_trans hlen hn2) hr hF hb fun H hO hS => hsp H a ns hlen hO hS
end Ev
set_option Elab.async false
set_option linter.all false
set_option maxRecDepth 100000
/-! Ev21: what a body's text is read with: the module's defs and constants by names; short rules for printed proofs. -/
namespace Ev
open PySem PySem.Spec PyProof.Rows L2
/-- the address of a name's def or class, as the written part has it -/
def faOf (K : PySem.W.Frag) (names : List Str) (i : Nat) : Option Addr := (names[i]?).bind fun x => match PySem.W.nsIn K mainGlobals x with
  | some (some (.ref a)) => some a
  | _ => none
/-- a constant of the module -/
structure CoOk (C : Cf) (mg : Str → Option Value) (x : Str) (d : D) : Prop where
  ex : ∃ u v, mg x = some u ∧ RelV v u ∧ ∀ θ H, RV C θ H d v
/-- a def of the text -/
structure DefAt (K : PySem.W.Frag) (x qual : Str) (st : Stmt) : Prop where
  ex : ∃ f fd, PySem.W.nsIn K mainGlobals x = some (some (.ref f)) ∧ L2.Fun K x qual st f fd
theorem def_mk {K : PySem.W.Frag} {x : Str} {st : Stmt} {f : Addr} {oc : Value} {od : Option Addr} {kV doc pm : Value} {an : Option Addr} {cdv ct : Value} {osl : Array (Option Value)} (a : PySem.W.nsIn K mainGlobals x = some (some (.ref f)))
    (l : K.lookup f = some ⟨oc, od, .func (PySem.W.fnOf x x (defArgs st) (defBody st) (defScope st) .none kV doc pm an cdv ct), osl⟩) (c : PySem.W.codeIn K cdv x = true) (k : PySem.W.keepIn K (.ref f) = true) : DefAt K x x st :=
  ⟨f, _, a, ⟨⟨oc, od, kV, doc, pm, an, cdv, ct, osl, rfl, l, c⟩, k⟩⟩
section
variable {C : Cf} {mg : Str → Option Value} {x : Str} {h : Heap}
theorem co_int {i : Int} {t : Tok} (X : C.K.In h) (G : h.Ns mainGlobals mg) (e : PySem.W.nsIn C.K mainGlobals x = some (some (.int i t))) : CoOk C mg x (.p (.int i)) :=
  ⟨_, .int i, PySem.W.mg_of X G e, ⟨t, rfl⟩, fun _ _ => .p (.int i)⟩
theorem co_str {z : Str} {t : Tok} (X : C.K.In h) (G : h.Ns mainGlobals mg) (e : PySem.W.nsIn C.K mainGlobals x = some (some (.str z t))) : CoOk C mg x (.p (.str z)) :=
  ⟨_, .str z, PySem.W.mg_of X G e, ⟨t, rfl⟩, fun _ _ => .p (.str z)⟩
/-- texts, one by one -/
inductive StrsAre : List Str → List Value → Prop
  | nil : StrsAre [] []
  | cons {z : Str} {t : Tok} {zs : List Str} {us : List Value} : StrsAre zs us → StrsAre (z :: zs) (.str z t :: us)
theorem StrsAre.vals {zs : List Str} {us : List Value} (s : StrsAre zs us) : Vals (zs.map V.str) us := by
  induction s with
  | nil => exact .nil
  | @cons z t _ _ _ ih => exact .cons ⟨t, rfl⟩ ih
theorem strs_rp {H : Hp} : ∀ zs : List Str, RpL C H (zs.map PyData.str) (zs.map V.str)
  | [] => .nil
  | z :: zs => .cons (.str z) (strs_rp zs)
theorem co_strs {zs : List Str} {a : Addr} {o : Obj} {its : Array Value} {n : Nat} (X : C.K.In h) (G : h.Ns mainGlobals mg) (e : PySem.W.nsIn C.K mainGlobals x = some (some (.ref a))) (l : C.K.lookup a = some o)
    (oc : o.cls = .type "tuple") (od : o.data = .seq its n) (hz : its.size ≤ sizeLine) (s : StrsAre zs its.toList) : CoOk C mg x (.p (.tuple (zs.map .str))) :=
  ⟨_, .ref a, PySem.W.mg_of X G e, rfl, fun _ _ => .p (.tup (.inr ⟨o, its, n, l, oc, od, hz, s.vals⟩) (strs_rp zs))⟩
end
/-- where a text stands: in a def whose callees are known -/
structure Here (X : Cx) (W : WX) (fa : Nat → Option Addr) (k : Nat) (ar : Nat → Nat) (F : Nat → Fn) (names : List Str) (nd : Nat) : Prop where
  good : ∀ i, i < nd → Good X.prog X.w X.K X.mg X.base fa k i (ar i) (F i)
  room : Room k X.A
  gd : X.A.guards = some []
  nm : ∀ i x f, names[i]? = some x → fa i = some f → X.mg x = some (.ref f)
  tot : ∀ i f, fa i = some f → i < nd
  calm : X.calm = true
  tk : Takes X W
section
variable {X : Cx} {W : WX} {fa : Nat → Option Addr} {k nd : Nat} {ar : Nat → Nat} {F : Nat → Fn} {names : List Str} {x : Str} {p pos : Pos} {e : Expr} {es : List Expr} {ms : DA}
theorem Here.u64 (h : Here X W fa k ar F names nd) : X.A.units + 64 < cLine := by have := h.room.un; omega
theorem Here.u65 (h : Here X W fa k ar F names nd) : X.A.units + 65 < cLine := by have := h.room.un; omega
theorem Here.u70 (h : Here X W fa k ar F names nd) : X.A.units + 70 < cLine := by have := h.room.un; omega
theorem takes_never {X : Cx} : Takes X WF := fun u s' ⟨_, _, _, _, _, _, _, _, _, _, _, _, _, _, _, _, w⟩ => w.elim
theorem Here.blk (h : Here X W fa k ar F names nd) (s : Shared) (H : Hp) (sc : Scope) (ce : Env) (fp : List Addr) : Here (X.blk s H sc ce fp) WF fa k ar F names nd := ⟨h.good, h.room, h.gd, h.nm, h.tot, h.calm, takes_never⟩
theorem Here.tr (h : Here X W fa k ar F names nd) {W' : WX} (pn : List (Addr × Obj)) (xe : Value → Shared → Prop) (tk : Takes (X.tr pn xe) W') : Here (X.tr pn xe) W' fa k ar F names nd := ⟨h.good, h.room, h.gd, h.nm, h.tot, h.calm, tk⟩
theorem h_call (h : Here X W fa k ar F names nd) (i : Nat) (hx : names[i]? = some x) (hi : i < nd) (hg : Gl X x) (ha : SA X fa W (e :: es) ms) (hdb : (x == ("__debug__" : Str)) = false := by decide)
    (he : starEach (e :: es) X.env = (false, eval e X.env) :: starEach es X.env := by rfl) (hpl : (backTo pos (starEach es X.env)).any (·.1) = false := by rfl) : SE X fa W (.Call (.Name x p) (e :: es) [] pos) (eCall (ar i) (F i) ms) :=
  se_call (h.good i hi) h.room h.gd h.tk hg (fun f => h.nm i x f hx) ha hdb he hpl
theorem h_callV (h : Here X W fa k ar F names nd) (v : Nat) (hN : X.N[v]? = some x) (hv : Vis X.env.scope x) (ha : SA X fa W (e :: es) ms) (hdb : (x == ("__debug__" : Str)) = false := by decide) (hcd : (x == ("__classdict__" : Str)) = false := by decide)
    (he : starEach (e :: es) X.env = (false, eval e X.env) :: starEach es X.env := by rfl) (hpl : (backTo pos (starEach es X.env)).any (·.1) = false := by rfl) : SE X fa W (.Call (.Name x p) (e :: es) [] pos) (eCallV v ar F ms) :=
  se_callV (fun i f hf => h.good i (h.tot i f hf)) h.room h.gd h.tk hN hv ha hdb hcd he hpl
theorem h_fn (h : Here X W fa k ar F names nd) (i : Nat) (hx : names[i]? = some x) (hi : i < nd) (hg : Gl X x) (hd : (x == ("__debug__" : Str)) = false := by decide) : SE X fa W (.Name x pos) (eC (.fn i)) := by
  obtain ⟨f, _, _, h1, _⟩ := (h.good i hi).ex
  exact se_fn hg (h.nm i x f hx h1) h1 hd
theorem co_se {d : D} (c : CoOk (cf X fa) X.mg x d) (hg : Gl X x) (hd : (x == ("__debug__" : Str)) = false := by decide) : SE X fa W (.Name x pos) (eC d) := by
  obtain ⟨u, v, h1, h2, h3⟩ := c.ex
  exact se_glob hg h1 h2 h3 hd
theorem se_neg1 {i : Int} {j : Nat} {q : Pos} : SE X fa W (.UnaryOp .USub (.Constant (.int i) j q) pos) (eC (.p (.int (-i)))) :=
  wkE (pe_un un_neg pe_int) fun σ H Q ⟨ρ, θ, G, R, e, q⟩ => ⟨i, rfl, q θ H Step.refl R (.int (-i)) (.p (.int (-i)))⟩
end
end Ev
set_option Elab.async false
set_option linter.all false
set_option maxRecDepth 100000
/-! Ev22: t[::-1] of a tuple. -/
namespace Ev
open PySem PySem.Spec PyProof.Rows L2 HT
theorem rev_places (n : Nat) : Builtin.Slice.slicePlaces ((n : Int) - 1) (-1) (-1) = n := by
  unfold Builtin.Slice.slicePlaces
  have h1 : ¬ ((-1 : Int) > 0) := by decide
  simp only [h1, if_false]
  split
  · rename_i h
    have e : (((n : Int) - 1) - (-1) - 1) = (n : Int) - 1 := by omega
    have e2 : (-(-1) : Int) = 1 := by decide
    rw [e2]
    simp only [Int.ediv_one]
    omega
  · omega
theorem fm_congr {α β : Type} {f g : α → Option β} : ∀ {l : List α}, (∀ x ∈ l, f x = g x) → l.filterMap f = l.filterMap g
  | [], _ => rfl
  | a :: l, h => by rw [List.filterMap_cons, List.filterMap_cons, h a List.mem_cons_self, fm_congr fun x hx => h x (List.mem_cons_of_mem _ hx)]
theorem rev_pick (xs : Array Value) : ((List.range xs.size).filterMap fun (m : Nat) => xs[(((xs.size : Int) - 1) + (m : Int) * (-1)).toNat]?).toArray = xs.toList.reverse.toArray := by
  have e : ((List.range xs.size).filterMap fun (m : Nat) => xs[(((xs.size : Int) - 1) + (m : Int) * (-1)).toNat]?) = ((List.range xs.size).map fun k => xs.size - 1 - k).filterMap (xs[·]?) := by
    rw [List.filterMap_map]
    refine fm_congr fun m hm => ?_
    have := List.mem_range.mp hm
    show xs[_]? = xs[_]?
    rw [show (((xs.size : Int) - 1) + (m : Int) * (-1)).toNat = xs.size - 1 - m by omega]
  rw [e, PySem.W.krv_range, List.filterMap_reverse, PySem.W.krv_all]
section
variable {prog : Program} {w : World} {A : Around} {E : Value → Shared → Prop} {s : Shared}
theorem get_rev {t sl : Addr} {items : Array Value} {vl vu vs : Value} {Q : Value → Shared → Prop} (ht : IsTup s.heap t items) (hs : s.heap.IsSliceOf sl vl vu vs) (pl : IsPart vl none) (pu : IsPart vu none) (ps : IsPart vs (some (-1)))
    (h : Q (.ref s.heap.objs.size) { s with heap := s.heap.push { cls := .type "tuple", data := .seq items.toList.reverse.toArray } }) (hsz : items.size ≤ sizeLine) : wpAny (model prog w) A (getItem (.ref t) (.ref sl)) Q E s := by
  have hfit : sizeOk (.seq items.toList.reverse.toArray) := by
    show items.toList.reverse.toArray.size ≤ sizeLine
    rw [List.size_toArray, List.length_reverse, Array.length_toList]; exact hsz
  obtain ⟨os, ho, hc, hd⟩ := id hs
  have hT : s.TypeIs (.ref sl) "slice" := ⟨os, ho, hc⟩
  unfold getItem
  try with_reducible refine wpAny_holding ?_
  first | refine wpAny_bind (wpAny_pure ?_) | skip
  refine wpAny_bind (wpAny_sequenceKey ht.typeIs (by decide) (wpAny_bind (wpAny_callSpecial?_slot (name := Str.ofString "__getitem__") ht.typeIs PyProof.Rows.slot_tuple_getitem (wpAny_call_entry PyProof.Rows.slot_tuple_getitem ht.typeIs entry_tuple_getitem ?_ (args_tuple_getitem _ _)))))
  show wpAny _ _ (Builtin.Tuple.tupleItemsOf (.ref t) >>= _) _ _ s
  refine wpAny_bind (tupleItemsOf_ ht (wpAny_bind (wpAny_typeOf hT ?_)))
  rw [if_pos (by decide)]
  refine wpAny_bind ?_
  unfold Builtin.Slice.sliceApplied Builtin.Slice.sliceFields
  refine wpAny_bind (wpAny_bind (wpAny_field ho hd (x := vl) rfl (wpAny_bind (wpAny_field ho hd (x := vu) rfl (wpAny_bind (wpAny_field ho hd (x := vs) rfl (wpAny_pure ?_)))))))
  refine wpAny_bind (slicePart_ ps ?_)
  show wpAny _ _ (if ((-1 : Int) == 0) = true then _ else _) _ _ s
  rw [if_neg (by decide)]
  refine wpAny_bind (slicePart_ pl (wpAny_bind (slicePart_ pu (wpAny_bind (wpAny_pure ?_)))))
  show wpAny _ _ (pure ((items.size : Int) - 1, (-1 : Int), Builtin.Slice.slicePlaces ((items.size : Int) - 1) (-1) (-1))) _ _ s
  rw [rev_places]
  refine wpAny_pure ?_
  have hno : ¬ ((((items.size : Int) - 1) == 0 && (-1 : Int) == 1 && items.size == items.size) = true) := by
    rw [show ((-1 : Int) == 1) = false from rfl, Bool.and_false, Bool.false_and]; exact Bool.false_ne_true
  show wpAny _ _ (if (((items.size : Int) - 1) == 0 && (-1 : Int) == 1 && items.size == items.size) = true then _ else _) _ _ s
  rw [if_neg hno, rev_pick]
  first
    | exact wpAny_bind (m := Builtin.Tuple.tupleExact _) (wpAny_newObj_type (wpAny_pure ⟨_, rfl, wpAny_pure h⟩) hfit)
    | exact wpAny_bind (m := Builtin.Tuple.tupleExact _) (wpAny_newObj_type (wpAny_bind (wpAny_pure (wpAny_pure ⟨_, rfl, wpAny_pure h⟩))) hfit)
end
def tRevT (K : PySem.W.Frag) (te : TE) : TE := fun σ H Q => te σ H fun x H1 => ∃ a xs, x = .ref a ∧ SqT K H1 a xs ∧ ∀ p, H1 p = none → Q (.ref p) (L2.upd H1 p (.tup xs.reverse))
section
variable {X : Cx} {e : Expr} {te : TE} {k : Nat} {p1 p2 p3 pos : Pos}
theorem pe_revT (he : PE X e te) : PE X (.Subscript e (.Slice none none (some (.UnaryOp .USub (.Constant (.int 1) k p1) p2)) p3) pos) (tRevT X.K te) := by
  refine ⟨fun pins s σ H Q I h => Subscript_ (thn (he.run pins s σ H _ I h) fun v t ⟨x, H1, I1, r1, a, xs, ex, hx, q⟩ => ?_)⟩
  subst ex
  cases r1
  have st : PO X (some (.UnaryOp .USub (.Constant (.int 1) k p1) p2)) (tPart (tUn (rU fun i => .int (-i)) (tC (.int 1)))) := po_some (pe_un un_neg pe_int)
  refine wpAny_Slice (thn (po_none.run pins t σ H1 (fun o H2 => o = none ∧ H2 = H1) I1 ⟨rfl, rfl⟩) fun vl t2 ⟨_, _, I2, pl, c1, c2⟩ => ?_)
  subst c1 c2
  refine thn (po_none.run pins t2 σ _ (fun o H3 => o = none ∧ H3 = _) I2 ⟨rfl, rfl⟩) fun vu t3 ⟨_, _, I3, pu, c3, c4⟩ => ?_
  subst c3 c4
  refine thn (st.run pins t3 σ _ (fun o H4 => o = some (-1) ∧ H4 = _) I3 ⟨1, rfl, -1, rfl, rfl, rfl⟩) fun vs t4 ⟨_, H4, I4, ps, c5, c6⟩ => ?_
  subst c5 c6
  have J : Inv X pins σ H4 { t4 with heap := t4.heap.push { cls := .type "slice", data := .fields #[vl, vu, vs] } } := I4.kept (t' := t4.toks) fun b ob q => Heap.get?_push_of_some _ q
  obtain ⟨its, r, ht, hz⟩ := J.tuple hx
  have hl := r.length
  show wpAny (model X.prog X.w) X.A (subscriptTail e (.Slice none none (some (.UnaryOp .USub (.Constant (.int 1) k p1) p2)) p3) (.ref a) (.ref t4.heap.objs.size)) (EP X pins σ Q) X.xe _
  refine tail_any (ops := [.ref a, .ref t4.heap.objs.size]) ht.typeIs PyProof.Rows.slot_tuple_getitem.lookup ?_ (by with_unfolding_all rfl)
  refine get_rev ht (Heap.IsSliceOf.new _ vl vu vs) pl pu ps ?_ (by rw [List.size_toArray]; omega)
  refine ⟨.ref _, _, J.laid (t' := t4.toks) (o := .tup xs.reverse) (fun b ob q => Heap.get?_push_of_some _ q) (Nat.le_refl _) ?_, rfl, q _ (J.hok.fresh (Nat.le_refl _))⟩
  exact ⟨by rw [List.length_reverse]; exact hz, _, r.reverse, IsTup.new _ _⟩
end
def eRev (e : DE) : DE := fun ρ G => (e ρ G).bind fun d G => match itemsOf d with | some ds => .ok (mkTup ds.reverse) G | none => .stuck
section
variable {X : Cx} {fa : Nat → Option Addr} {W : WX} {e : Expr} {m : DE} {k : Nat} {p1 p2 p3 pos : Pos}
theorem RVL.reverse {C : Cf} {θ : List Addr} {H : Hp} : ∀ {ds : List D} {vs : List V}, RVL C θ H ds vs → RVL C θ H ds.reverse vs.reverse
  | [], _, .nil => .nil
  | _ :: _, _, .cons r t => by rw [List.reverse_cons, List.reverse_cons]; exact (RVL.reverse t).append (.cons r .nil)
theorem se_rev (h : SE X fa W e m) : SE X fa W (.Subscript e (.Slice none none (some (.UnaryOp .USub (.Constant (.int 1) k p1) p2)) p3) pos) (eRev m) := by
  refine wkE (pe_revT h) fun σ H Q ⟨ρ, θ, G, R, e, h⟩ => ?_
  refine runE R e h fun d G1 θ1 H1 v st1 R1 e1 rv h1 => ?_
  cases q : itemsOf d with
  | none => rw [q] at h1; exact h1.elim
  | some ds =>
    rw [q] at h1
    obtain ⟨a, xs, ev, hs, rl⟩ := items_rel q rv
    refine ⟨a, xs, ev, hs, fun p hp => ?_⟩
    exact new_tup R1 (RVL.reverse rl) hp h1
end
end Ev
set_option Elab.async false
set_option linter.all false
set_option maxRecDepth 100000
/-! Ev23: a module's own errors by their names. -/
namespace Ev
open PySem PySem.Spec PyProof.Rows L2
def adr (fa : Nat → Option Addr) (c : Nat) : Addr := (fa c).getD 0
/-- an own error with two data -/
structure Er2 (P : Program) (K : PySem.W.Frag) (mg : Str → Option Value) (fa : Nat → Option Addr) (c : Nat) (x n1 n2 : Str) : Prop where
  at_ : fa c = some (adr fa c)
  m : mg x = some (.ref (adr fa c))
  ini : ∃ fI, Init2 P K (adr fa c) fI n1 n2 ∧ PySem.W.findIn K (.ref (adr fa c)) "__init__" = some (some (.ref fI)) ∧ PySem.W.typeIn K (.ref fI) = some (.type "function")
  n1 : PySem.W.findIn K (.ref (adr fa c)) n1 = some none
  n2 : PySem.W.findIn K (.ref (adr fa c)) n2 = some none
  xf : XfC K (adr fa c)
  gs : mg "super" = none
/-- an own error without data or an __init__ of its own -/
structure Er0 (K : PySem.W.Frag) (mg : Str → Option Value) (fa : Nat → Option Addr) (c : Nat) (x : Str) (bm : List Value) : Prop where
  at_ : fa c = some (adr fa c)
  m : mg x = some (.ref (adr fa c))
  q : PySem.W.excIn K (adr fa c) bm "ValueError.__new__" = true
  k : PySem.W.keepIn K (.ref (adr fa c)) = true
  e1 : PySem.W.subIn K (.ref (adr fa c)) (.type "BaseException") = some true
  e2 : PySem.W.typeIn K (.ref (adr fa c)) = some (.type "type")
theorem boot_super : bootBuiltins "super" = some (.type "super") := by decide +kernel
section
variable {X : Cx} {W : WX} {fa : Nat → Option Addr} {c : Nat} {x n1 n2 : Str} {p pos pos2 : Pos} {e : Expr} {es : List Expr} {ms : DA} {k : Nat} {bm : List Value} {newId initId : String}
theorem Er2.raise2 (T : Er2 X.prog X.K X.mg fa c x n1 n2) (hc : X.calm = true) (tk : Takes X W) (hr : Room k X.A) (hk : 1 ≤ k) (hg : Gl X x) (ha : SA X fa W (e :: es) ms) (hdb : (x == ("__debug__" : Str)) = false := by decide)
    (he : starEach (e :: es) X.env = (false, eval e X.env) :: starEach es X.env := by rfl) (hpl : (backTo pos (starEach es X.env)).any (·.1) = false := by rfl) :
    SS X fa W (.Raise (some (.Call (.Name x p) (e :: es) [] pos)) none pos2) (sRaise2 c n1 n2 ms) := by
  obtain ⟨fI, i1, i2, i3⟩ := T.ini
  exact ss_raise2 hc tk T.at_ i1 i2 i3 (hr.mono hk) T.gs boot_super hg T.m ha hdb he hpl
theorem Er0.raise0 (T : Er0 X.K X.mg fa c x bm) (F : ExcBaseFacts "ValueError" "ValueError.__new__" initId bm) (hc : X.calm = true) (tk : Takes X W) (hg : Gl X x) (hdb : (x == ("__debug__" : Str)) = false := by decide) :
    SS X fa W (.Raise (some (.Call (.Name x p) [] [] pos)) none pos2) (sRaise0 c) := ss_raise0 hc tk T.at_ F T.q T.m T.k T.e1 T.e2 hg hdb
theorem Er2.names (T : Er2 X.prog X.K X.mg fa c x n1 n2) (hg : Gl X x) (hd : (x == ("__debug__" : Str)) = false := by decide) : Names X x (.ref (adr fa c)) := ⟨hg, hd, .inl T.m⟩
end
theorem faOf_at {K : PySem.W.Frag} {names : List Str} {c : Nat} {x : Str} {C : Addr} (hx : names[c]? = some x) (e : PySem.W.nsIn K mainGlobals x = some (some (.ref C))) : faOf K names c = some C := by
  unfold faOf
  rw [hx]
  show (match PySem.W.nsIn K mainGlobals x with | some (some (.ref a)) => some a | _ => none) = _
  rw [e]
theorem adr_at {K : PySem.W.Frag} {names : List Str} {c : Nat} {x : Str} {C : Addr} (hx : names[c]? = some x) (e : PySem.W.nsIn K mainGlobals x = some (some (.ref C))) : adr (faOf K names) c = C := by
  unfold adr
  rw [faOf_at hx e]; rfl
theorem er2_mk {P : Program} {K : PySem.W.Frag} {h : Heap} {mg : Str → Option Value} {names : List Str} {c : Nat} {x n1 n2 : Str} (X : K.In h) (G : h.Ns mainGlobals mg) (hx : names[c]? = some x)
    {C fI : Addr} {oc : Value} {od : Option Addr} {osl : Array (Option Value)} {qual : Str} {a1 a2 a3 : Pos} {dV kV doc pm ct : Value} {an : Option Addr} {cda cc : Addr} {p1 p2 p3 p4 p5 p6 p7 p8 p9 p10 p11 p12 p13 p14 p15 : Pos} {cl : Value} {cld : Option Addr} {csl : Array (Option Value)}
    {ccl : Value} {cdd : Option Addr} {vs : Array Value} {ccs : Array (Option Value)} {file : Str} {tf : Tok} {nm q : Str} {N : Addr} {bs bm : List Value} {sn : List Str} {sub : List Value} {ab : Bool} {col : Option Bool} {dd : Option Addr} {k0 k1 k2 k3 k5 : Option Value}
    (aC : PySem.W.nsIn K mainGlobals x = some (some (.ref C)))
    (cls : K.lookup C = some (excClassObj nm q C N bs bm true sn sub ab col dd k0 k1 k2 k3 k5 "ValueError.__new__"))
    (iC : PySem.W.findIn K (.ref C) "__init__" = some (some (.ref fI))) (tI : PySem.W.typeIn K (.ref fI) = some (.type "function"))
    (l : K.lookup fI = some ⟨oc, od, .func (PySem.W.fnX "__init__" qual { posonlyargs := [], args := [⟨"self", none, a1⟩, ⟨n1, none, a2⟩, ⟨n2, none, a3⟩], vararg := none, kwonlyargs := [], kw_defaults := [], kwarg := none, defaults := [] } (body2 n1 n2 p1 p2 p3 p4 p5 p6 p7 p8 p9 p10 p11 p12 p13 p14 p15) (scope2 n1 n2) [("__class__", cc)] dV kV doc pm an (.ref cda) ct), osl⟩)
    (cd : PySem.W.codeIn K (.ref cda) qual = true) (lc : K.lookup cc = some ⟨cl, cld, .cell (some (.ref C)), csl⟩) (ld : K.lookup cda = some ⟨ccl, cdd, .fields vs, ccs⟩)
    (hb : ∀ u v1 v2 : Value, bindArgs (PySem.W.fnX "__init__" qual { posonlyargs := [], args := [⟨"self", none, a1⟩, ⟨n1, none, a2⟩, ⟨n2, none, a3⟩], vararg := none, kwonlyargs := [], kw_defaults := [], kwarg := none, defaults := [] } (body2 n1 n2 p1 p2 p3 p4 p5 p6 p7 p8 p9 p10 p11 p12 p13 p14 p15) (scope2 n1 n2) [("__class__", cc)] dV kV doc pm an (.ref cda) ct) ⟨[u, v1, v2], []⟩ = pure [(Str.ofString "self", u), (n1, v1), (n2, v2)])
    (hs : ∀ l : Addr, SupCall (callEnv (PySem.W.fnX "__init__" qual { posonlyargs := [], args := [⟨"self", none, a1⟩, ⟨n1, none, a2⟩, ⟨n2, none, a3⟩], vararg := none, kwonlyargs := [], kw_defaults := [], kwarg := none, defaults := [] } (body2 n1 n2 p1 p2 p3 p4 p5 p6 p7 p8 p9 p10 p11 p12 p13 p14 p15) (scope2 n1 n2) [("__class__", cc)] dV kV doc pm an (.ref cda) ct) l fI) n1 n2 p1 p2 p3 p4 p5 p6)
    (vf : vs[2]? = some (.str file tf)) (hf : ((P.main.file : Str) == file) = true) (bmOk : PySem.HandSPX.refsVE bm = true)
    (sa : PySem.W.findIn K (.ref C) "__setattr__" = some (some (.builtin "object.__setattr__"))) (exC : PySem.W.subIn K (.ref C) (.type "BaseException") = some true) (tyC : PySem.W.typeIn K (.ref C) = some (.type "type")) (kC : PySem.W.keepIn K (.ref C) = true)
    (mro : PySem.W.mroIn K C (.ref C) = some true) (sup : PySem.W.ks_superIn K C C "__init__" = some (some (.builtin "ValueError.__init__"))) (ve : PySem.W.subIn K (.ref C) (.type "ValueError") = some true) (any : PySem.W.nsIn K cStatics "thirdparty.any" = some none)
    (f1 : PySem.W.findIn K (.ref C) n1 = some none) (f2 : PySem.W.findIn K (.ref C) n2 = some none) (ga : PySem.W.findIn K (.ref C) "__getattribute__" = some (some (.builtin "BaseException.__getattribute__"))) (gg : PySem.W.findIn K (.ref C) "__getattr__" = some none) (hdC : PySem.W.hasDictIn K C = true)
    (zs : PySem.W.nsIn K mainGlobals "super" = some none) (top : (P.main.scope.names.lookup ("super" : Str)).isSome = false)
    (ls : (scope2 n1 n2).names.lookup (Str.ofString "super") = some .globalImplicit) (lk : (scope2 n1 n2).names.lookup (Str.ofString "__class__") = some .free) (ne : n1 ≠ n2) (s1 : n1 ≠ "self") (s2 : n2 ≠ "self") (d1 : (n1 == ("__debug__" : Str)) = false) (d2 : (n2 == ("__debug__" : Str)) = false) :
    Er2 P K mg (faOf K names) c x n1 n2 := by
  have e := adr_at hx aC
  have T : Init2 P K C fI n1 n2 := ⟨⟨oc, od, osl, qual, a1, a2, a3, dV, kV, doc, pm, ct, an, cda, cc, p1, p2, p3, p4, p5, p6, p7, p8, p9, p10, p11, p12, p13, p14, p15, l, cd, hb, hs, ⟨cl, cld, csl, lc⟩, ccl, cdd, vs, ccs, file, tf, ld, vf, hf⟩,
    ⟨⟨nm, q, N, bs, bm, sn, sub, ab, col, dd, k0, k1, k2, k3, k5, cls, bmOk⟩, sa, exC, tyC, kC⟩, mro, sup, ve, any, top, f1, f2, ls, lk, ne, s1, s2, d1, d2⟩
  refine ⟨?_, ?_, ?_, ?_, ?_, ?_, PySem.W.mg_none_of X G zs⟩ <;> rw [e]
  · exact faOf_at hx aC
  · exact PySem.W.mg_of X G aC
  · exact ⟨fI, T, iC, tI⟩
  · exact f1
  · exact f2
  · exact ⟨ga, gg, exC, hdC⟩
theorem er0_mk {K : PySem.W.Frag} {h : Heap} {mg : Str → Option Value} {names : List Str} {c : Nat} {x : Str} {bm : List Value} (X : K.In h) (G : h.Ns mainGlobals mg) (hx : names[c]? = some x) {C : Addr} (aC : PySem.W.nsIn K mainGlobals x = some (some (.ref C)))
    (q : PySem.W.excIn K C bm "ValueError.__new__" = true) (k : PySem.W.keepIn K (.ref C) = true) (e1 : PySem.W.subIn K (.ref C) (.type "BaseException") = some true) (e2 : PySem.W.typeIn K (.ref C) = some (.type "type")) : Er0 K mg (faOf K names) c x bm := by
  have e := adr_at hx aC
  refine ⟨?_, ?_, ?_, ?_, ?_, ?_⟩ <;> rw [e]
  · exact faOf_at hx aC
  · exact PySem.W.mg_of X G aC
  · exact q
  · exact k
  · exact e1
  · exact e2
end Ev
set_option Elab.async false
set_option linter.all false
set_option maxRecDepth 100000
/-! Ev24: from the bodies to the law. -/
namespace Ev
open PySem PySem.Spec PyProof.Rows L2
section
variable {P : Program} {w : World} {K : PySem.W.Frag} {mg : Str → Option Value} {base : Heap} {fa : Nat → Option Addr} {names : List Str}
theorem fa_nsIn {i : Nat} {f : Addr} (h : faOf K names i = some f) : ∃ x, names[i]? = some x ∧ PySem.W.nsIn K mainGlobals x = some (some (.ref f)) := by
  unfold faOf at h
  rw [Option.bind_eq_some_iff] at h
  obtain ⟨x, h1, h2⟩ := h
  refine ⟨x, h1, ?_⟩
  split at h2
  · rename_i a e
    cases h2
    exact e
  · cases h2
theorem fa_mg {hp : Heap} (X : K.In hp) (G : hp.Ns mainGlobals mg) (i : Nat) (x : Str) (f : Addr) (hx : names[i]? = some x) (h : faOf K names i = some f) : mg x = some (.ref f) := by
  obtain ⟨y, h1, h2⟩ := fa_nsIn h
  rw [hx] at h1
  cases h1
  exact PySem.W.mg_of X G h2
theorem fa_lt {i : Nat} {f : Addr} (h : faOf K names i = some f) : i < names.length := by
  obtain ⟨y, h1, _⟩ := fa_nsIn h
  exact (List.getElem?_eq_some_iff.mp h1).1
/-- a body's promise -/
theorem ok_of {x qual : Str} {st : Stmt} {f : Addr} {fd : FuncData} {N ps : List Str} {k m n : Nat} {body : DS} (Fn : L2.Fun K x qual st f fd) (S : FnScope N ps (defScope st)) (hn : ps.length = n) (hm : N.length = n + m)
    (h : BodyOk P w K mg base fa k N qual st f body) : Ok1 P w K mg base (k + 1) f fd ps (spI ⟨P, w, K, fa⟩ n (enter n m body)) := by
  subst hn
  refine ok1_of Fn S (fun vs H Q E z => z.1) fun cdv A fr s H vs Q E hr hG hsp => ?_
  obtain ⟨hl, ds, θ, G, R, rv, h'⟩ := hsp
  refine ⟨_, h cdv A fr s H E hr hG, ds.map some ++ List.replicate m none, θ, G, R, start_env rv (by rw [hm, rv.length, hl]), ?_⟩
  unfold enter at h'
  rw [if_pos (by rw [rv.length, hl])] at h'
  show PostS ⟨P, w, K, fa⟩ θ H _ _ (body (ds.map some ++ List.replicate m none) G)
  cases e : body (ds.map some ++ List.replicate m none) G with
  | nx ρ' G' => rw [e] at h'; exact fun θ' H' σ' z R' _ => h' θ' H' z R' .non (.p .non)
  | rt d G' => rw [e] at h'; exact fun θ' H' v z R' r => h' θ' H' z R' v r
  | exc c fs ρ' G' => rw [e] at h'; exact fun θ' H' σ' cls dd z R' _ x => h' θ' H' cls dd z R' x
  | bk _ _ => rw [e] at h'; exact h'.elim
  | ct _ _ => rw [e] at h'; exact h'.elim
  | stuck => rw [e] at h'; exact h'.elim
/-- a class's number: nothing is promised of its being called as a def -/
theorem Good.nothing {i k n : Nat} {f : Addr} {fd : FuncData} {ps : List Str} {r : Fn} (hf : fa i = some f) (hk : PySem.W.keepIn K (.ref f) = true) (hb : Binds K fd ps []) (hn : ps.length = n) (hr : ∀ ds G, r ds G = .stuck) : Good P w K mg base fa k i n r :=
  ⟨f, fd, ps, hf, hn, ⟨fun vs H Q E ⟨_, ds, θ, G, R, rv, z⟩ => by rw [hr] at z; exact z.elim, fun A fr s H gv us vs Q E _ _ _ _ _ ⟨_, ds, θ, G, R, rv, z⟩ => by rw [hr] at z; exact z.elim⟩, hk, hb⟩
/-- a class of the text -/
structure ClsAt (K : PySem.W.Frag) (x : Str) : Prop where
  ex : ∃ C, PySem.W.nsIn K mainGlobals x = some (some (.ref C)) ∧ PySem.W.keepIn K (.ref C) = true
theorem cls_mk {x : Str} {C : Addr} (a : PySem.W.nsIn K mainGlobals x = some (some (.ref C))) (k : PySem.W.keepIn K (.ref C) = true) : ClsAt K x := ⟨C, a, k⟩
theorem exm_at {A C : Addr} {b : Bool} (e1 : PySem.W.subIn K (.ref C) (.type "BaseException") = some true) (iC : PySem.W.isClsIn K C = true) (tC : PySem.W.typeIn K (.ref C) = some (.type "type")) (s : PySem.W.subIn K (.ref A) (.ref C) = some b) : PySem.W.exmOne K (.ref A) (.ref C) = some b := by
  have i2 : (PySem.W.clsIn K C).isSome = true := iC
  unfold PySem.W.exmOne PySem.W.kitCls
  rw [e1]
  simp only [i2, tC, beq_self_eq_true, Bool.and_self, if_true]
  exact s
/-- the law's own promise is met where its meaning is the truth -/
theorem law_sp {H : Hp} {a : Addr} {ns : List Int} {r : Fn} (hO : Only H) (hS : SqL K H a (ns.map V.int)) (h : ∃ G', r [.kl (ns.map .int)] [] = .ok (.p (.bool true)) G') : spI ⟨P, w, K, fa⟩ 1 r [.ref a] H (fun v _ => v = .bl true) fun _ _ _ => False := by
  obtain ⟨G', h⟩ := h
  have sk : SqK K H a (ns.map V.int) := by
    rcases hS with (z | ⟨o, z⟩) | z
    · rcases hO a with q | ⟨o, xs, q⟩
      · rw [q] at z; cases z
      · rw [q] at z; cases z
    · exact .inl ⟨o, z⟩
    · exact .inr z
  have rp : ∀ l : List Int, RpL ⟨P, w, K, fa⟩ H (l.map PyData.int) (l.map V.int) := fun l => by
    induction l with
    | nil => exact .nil
    | cons i l ih => exact .cons (.int i) ih
  refine ⟨rfl, [.kl (ns.map .int)], [], [], Rel.nil, .cons (.kl sk (rp ns)) .nil, ?_⟩
  rw [h]
  intro θ' H' st R' v rv
  cases rv with
  | p z => cases z with | bl _ => rfl
end
end Ev
set_option Elab.async false
set_option linter.all false
set_option maxRecDepth 100000
/-! Ev25: len(set(xs)), xs a list of texts that may come again. -/
namespace Ev
open PySem PySem.Spec PyProof.Rows L2
def dstep (acc : List Str) (z : Str) : List Str := if acc.contains z then acc else acc ++ [z]
/-- a list without what came before -/
def dist (zs : List Str) : List Str := zs.foldl dstep []
theorem dist_any (zs : List Str) : ∀ (acc : List Str) (k : Str), (zs.foldl dstep acc).any (· == k) = (acc.any (· == k) || zs.any (· == k)) := by
  induction zs with
  | nil => intro acc k; simp
  | cons z zs ih =>
    intro acc k
    rw [List.foldl_cons, ih, List.any_cons]
    unfold dstep
    by_cases h : acc.contains z = true
    · rw [if_pos h]
      by_cases e : z = k
      · subst e
        have : acc.any (· == z) = true := by
          rw [List.any_eq_true]
          exact ⟨z, by simpa using h, by simp⟩
        rw [this]; simp
      · have : (z == k) = false := by simpa using e
        rw [this]; simp
    · rw [if_neg h, List.any_append]
      simp [Bool.or_assoc]
theorem dist_step (xs : List Str) (i : Nat) (h : i < xs.length) : (dist (xs.take (i + 1))).length = if (xs.take i).any (· == xs.getD i Str.empty) then (dist (xs.take i)).length else (dist (xs.take i)).length + 1 := by
  have e1 : xs.take (i + 1) = xs.take i ++ [xs.getD i Str.empty] := by
    rw [List.take_add_one, List.getD_eq_getElem?_getD, List.getElem?_eq_getElem h]; rfl
  rw [e1]
  unfold dist
  rw [List.foldl_append, List.foldl_cons, List.foldl_nil]
  have hc : ((xs.take i).foldl dstep []).contains (xs.getD i Str.empty) = (xs.take i).any (· == xs.getD i Str.empty) := by
    have := dist_any (xs.take i) [] (xs.getD i Str.empty)
    rw [List.any_nil, Bool.false_or] at this
    rw [← this, List.contains_eq_any_beq]
    congr 1
    funext z
    rw [Bool.eq_iff_iff, beq_iff_eq, beq_iff_eq]
    exact eq_comm
  generalize (xs.take i).foldl dstep [] = acc at hc ⊢
  unfold dstep
  rw [hc]
  split
  · rfl
  · rw [List.length_append]; rfl
theorem dist_le (xs : List Str) : (dist xs).length ≤ xs.length := by
  have : ∀ (zs acc : List Str), (zs.foldl dstep acc).length ≤ acc.length + zs.length := by
    intro zs
    induction zs with
    | nil => intro acc; simp
    | cons z zs ih =>
      intro acc
      rw [List.foldl_cons, List.length_cons]
      refine Nat.le_trans (ih _) ?_
      unfold dstep
      split
      · omega
      · rw [List.length_append, List.length_singleton]; omega
  have := this xs []
  rw [List.length_nil, Nat.zero_add] at this
  exact this
section
variable {prog : Program} {w : World} {A : Around} {R : Result → Shared → Prop} {I : Addr} {fp wr : List Addr} {G : Array GenState → Array GenState → Prop} {n : Nat} {P : Nat → Value → Prop} {St : Nat → Shared → Prop}
/-- the walk that fills the set -/
theorem fill_loop (W : WalksS prog w A.in1 I fp wr G n P St) (S : Addr) (out : S ∉ fp) (xs : List Str) (hsz : xs.length = n) (hn1 : n ≤ 4000) (hval : ∀ i v, P i v → ∃ t, v = .str (xs.getD i Str.empty) t) : ∀ (k i : Nat) (s : Shared), n - i = k → i ≤ n → St i s →
      s.heap.SetOf (PySem.strKind prog w) S (fun z => (xs.take i).any (· == z)) (dist (xs.take i)).length →
      (∀ s', Moved (S :: wr) G s s' → s'.heap.SetOf (PySem.strKind prog w) S (fun z => (xs.take n).any (· == z)) (dist (xs.take n)).length → R (.ok (.ret .none)) s') → codeAny (model prog w) A (.builtin "set.update.loop" ⟨[.ref S, .ref I], []⟩) R s := by
  have nw : S ∉ wr := fun h => out (W.sub _ h)
  have sub2 : ∀ b ∈ wr, b ∈ S :: wr := fun b hb => List.mem_cons_of_mem _ hb
  intro k
  induction k with
  | zero =>
    intro i s hk hi hst hS fin
    have e : i = n := by omega
    subst e
    refine codeAny_builtin PyProof.Rows.F.entry_set_update_loop ?_
    rw [Around.under_plainId PyProof.Rows.F.plain_set_update_loop _]
    show wpAny _ A.in1 (pyNext (.ref I) >>= _) _ _ s
    refine wpAny_bind (W.done s _ _ hst fun s' hm => ?_)
    show wpAny _ A.in1 (ret Value.none) _ _ s'
    refine wpAny_pure (fin s' (hm.mono sub2) ?_)
    obtain ⟨o, es, ep, t, ho, rest⟩ := hS
    exact ⟨o, es, ep, t, hm.heap S _ nw ho, rest⟩
  | succ k ih =>
    intro i s hk hi hst hS fin
    have hlt : i < n := by omega
    refine codeAny_builtin PyProof.Rows.F.entry_set_update_loop ?_
    rw [Around.under_plainId PyProof.Rows.F.plain_set_update_loop _]
    show wpAny _ A.in1 (pyNext (.ref I) >>= _) _ _ s
    refine wpAny_bind (W.item i s _ _ hlt hst fun v s' hP hst' hm => ?_)
    obtain ⟨t, rfl⟩ := hval i v hP
    have S2 : s'.heap.SetOf (PySem.strKind prog w) S (fun z => (xs.take i).any (· == z)) (dist (xs.take i)).length := by
      obtain ⟨o, es, ep, tb, ho, rest⟩ := hS
      exact ⟨o, es, ep, tb, hm.heap S _ nw ho, rest⟩
    show wpAny _ A.in1 (holding [Value.str (xs.getD i Str.empty) t] (setAdd S (.str (xs.getD i Str.empty) t)) >>= _) _ _ s'
    refine wpAny_bind (wpAny_holding ?_)
    unfold setAdd
    refine wpAny_holding ?_
    refine wpAny_bind ((PySem.strKind prog w).pyHash (k := xs.getD i Str.empty) (strKind_is _ _ _ _) ?_)
    have hd := dist_le (xs.take i)
    rw [List.length_take] at hd
    refine wpAny_setAddHashed_of (knd := PySem.strKind prog w) (s := { s' with toks := s'.toks + 1 }) (strKind_is _ _ _ _) rfl S2 (by unfold scanBound; omega) fun h' same S3 => ?_
    have S4 : h'.SetOf (PySem.strKind prog w) S (fun z => (xs.take (i + 1)).any (· == z)) (dist (xs.take (i + 1))).length := by
      refine SetOf_congr S3 (fun z => ?_) (dist_step xs i (by omega)).symm
      have e1 : xs.take (i + 1) = xs.take i ++ [xs.getD i Str.empty] := by
        rw [List.take_add_one, List.getD_eq_getElem?_getD, List.getElem?_eq_getElem (show i < xs.length by omega)]; rfl
      rw [e1, List.any_append]
      congr 1
      rw [List.any_cons, List.any_nil, Bool.or_false, Bool.eq_iff_iff, beq_iff_eq, decide_eq_true_eq]
      exact eq_comm
    refine wpAny_pure ⟨plainId_quiet PyProof.Rows.F.plain_set_update_loop _, ih (i + 1) _ (by omega) hlt (W.frame _ s' _ _ hst' (Nat.le_succ _) fun b hb o e => ?_) S4 fun s2 hm2 hS2 => ?_⟩
    · rw [same.2 b (fun h : b = S => out (by rw [← h]; exact hb))]; exact e
    · refine fin s2 (Moved.trans W.gtrans ((hm.mono sub2).then_heap (Nat.le_succ _) fun b o hb e => ?_) hm2) hS2
      rw [same.2 b (fun h : b = S => hb (by rw [h]; exact List.mem_cons_self))]; exact e
end
/-- the set object at the end of a heap, nothing in it yet -/
abbrev fresh (led : Bool) : Obj := { cls := .type "set", dict := none, data := .set #[] 0 (.fresh 0 0 led) }
section
variable {prog : Program} {w : World} {A : Around} {E : Value → Shared → Prop} {s : Shared}
set_option maxHeartbeats 3200000 in
theorem set_strs {l : Addr} {items : Array Value} {xs : List Str} {Q : Value → Shared → Prop} (hh : A.handled = none) (hl : s.heap.IsList l items) (hi : PyProof.Rows.StrsAre items.toList xs) (hn1 : xs.length ≤ 4000)
    (h : ∀ (h' : Heap) (tk : Nat), h'.SetOf (PySem.strKind prog w) s.heap.objs.size (fun z => (xs.take items.size).any (· == z)) (dist (xs.take items.size)).length → (∀ b o, b < s.heap.objs.size → s.heap.get? b = some o → h'.get? b = some o) → Q (.ref s.heap.objs.size) { s with heap := h', toks := tk }) :
    wpAny (model prog w) A (call (.type "set") [.ref l]) Q E s := by
  obtain ⟨c, tl, hmro⟩ := PySem.F.called_set.mro
  have f1 := PySem.F.called_set.made
  have f2 := PySem.F.called_set.sub
  refine wpAny_call (codeAny_of_tree ?_)
  show wpAny _ _ (callAny (.type "set") _) _ _ _
  refine wpAny_pure ⟨Code.quiet_builtin _ (by decide +kernel), codeAny_builtin PySem.F.entry_type_call ?_⟩; rw [Around.under_plain (weight_type_call_type "set" [.ref l] []) rfl]
  have f3 := PySem.F.called_set.notType
  have f4 := PySem.F.called_set.canCreate
  have f5 := PySem.F.typeCall_set_1 (.ref l)
  repeat (any_goals (first | assumption | wp_step))
  refine codeAny_mono (code_set_new_1 (.ref l) (E := E) (Q₁ := fun ob s1 => ∃ led : Bool, ob = .ref s.heap.objs.size ∧ s1 = { s with heap := s.heap.push (fresh led) }) fun led => ⟨led, rfl, rfl⟩) fun r s1 hr => ?_
  cases r with
  | error e => exact hr
  | ok fl =>
    cases fl with
    | ret ob =>
      obtain ⟨led, rfl, rfl⟩ := hr
      have hS : (s.heap.push (fresh led)).get? s.heap.objs.size = some (fresh led) := Heap.get?_push_size _ rfl
      have hT : Shared.TypeIs { s with heap := s.heap.push (fresh led) } (.ref s.heap.objs.size) "set" := ⟨_, hS, rfl⟩
      have f6 := PySem.F.called_set.init.lookup
      have f7 := PySem.F.called_set.init.bind (.ref s.heap.objs.size)
      repeat (any_goals (first | assumption | wp_step))
      refine codeAny_mono (codeAny_call_builtin (R := wants (fun r s2 => r = .none ∧ ∃ h' tk, s2 = { s with heap := h', toks := tk } ∧ h'.SetOf (PySem.strKind prog w) s.heap.objs.size (fun z => (xs.take items.size).any (· == z)) (dist (xs.take items.size)).length ∧ (∀ b o, b < s.heap.objs.size → s.heap.get? b = some o → h'.get? b = some o)) E) PySem.F.called_set.init.plain PySem.F.entry_set_init (check_set_init_1 hT ?_)) fun r2 s2 hr2 => ?_
      · obtain ⟨ol, hol, hcl, nl, hdl⟩ := hl
        obtain ⟨ocls, odict, odata, oslots⟩ := ol
        simp only at hcl hdl
        subst hcl
        subst hdl
        have at1 : (s.heap.push (fresh led)).get? l = some { cls := .type "list", dict := odict, data := .seq items nl, slots := oslots } := Heap.get?_push_of_some _ hol
        have g1 := PySem.F.sub_list_set
        have g2 := PySem.F.sub_list_frozenset
        have g3 : (Value.type "list" == Value.type "dict") = false := by decide
        have l1 : (s.heap.push (fresh led)).IsList l items := ⟨_, at1, rfl, nl, rfl⟩
        unfold Builtin.«set.__init__» noKeywords Builtin.Frozenset.updateFrom
        generalize hPI : pyIter = PI
        wp_walk
        subst hPI
        refine wpAny_pyIter_list l1 ?_
        refine wpAny_bind (wpAny_runValue ?_)
        have lS : l < s.heap.objs.size := Heap.lt_size hol
        have h3 : A.in1.in1.in1.handled = none := by simp [hh]
        have ne1 : l ≠ (s.heap.push (fresh led)).objs.size := by rw [Heap.size_push]; exact Nat.ne_of_lt (Nat.lt_succ_of_lt lS)
        have out : s.heap.objs.size ∉ [(s.heap.push (fresh led)).objs.size, l] := by
          rw [Heap.size_push]
          simp only [List.mem_cons, List.not_mem_nil, or_false, not_or]
          exact ⟨Nat.ne_of_lt (Nat.lt_succ_self _), Nat.ne_of_gt lS⟩
        have sz : xs.length = items.size := by rw [← StrsAre.len_eq hi, Array.length_toList]
        have val : ∀ (i : Nat) (v : Value), items[i]? = some v → ∃ t, v = .str (xs.getD i Str.empty) t := fun i v hv => SS.strs_at hi i v (by rw [Array.getElem?_toList]; exact hv)
        refine fill_loop ((Walks.list h3 _ l ne1 items).toS) s.heap.objs.size out xs sz (by rw [← sz]; exact hn1) val (items.size - 0) 0 _ (by omega) (Nat.zero_le _) ⟨⟨_, Heap.get?_push_size _ rfl, rfl, rfl⟩, (l1.push _)⟩ ?hS0 ?hR
        case hS0 =>
          have g : ((s.heap.push (fresh led)).push { cls := .type "list_iterator", data := .fields #[.ref l, .int 0 0] }).get? s.heap.objs.size = some (fresh led) := Heap.get?_push_of_some _ hS
          exact PyProof.Rows.SetOf_congr ((PyProof.Rows.setObjOf_fresh (knd := PySem.strKind prog w) led).setOf g (by unfold scanBound; omega)) (fun _ => rfl) rfl
        case hR =>
          intro s' hm hS'
          obtain ⟨h', g', d', tk', os'⟩ := s'
          have eg : g' = s.gens := hm.gens
          have ed : d' = s.drawn := hm.drawn
          have eo : os' = s.os := hm.os
          subst eg
          subst ed
          subst eo
          show wpAny _ _ _ _ _ _
          refine wpAny_pure ?_
          show wpAny _ _ (ret Value.none) _ _ _
          refine wpAny_pure ⟨rfl, h', tk', rfl, hS', fun b o hb e => ?_⟩
          have b1 : b ≠ s.heap.objs.size := Nat.ne_of_lt hb
          have b2 : b ≠ (s.heap.push (fresh led)).objs.size := by rw [Heap.size_push]; exact Nat.ne_of_lt (Nat.lt_succ_of_lt hb)
          exact hm.heap b o (by simp only [List.mem_cons, List.not_mem_nil, or_false, not_or]; exact ⟨b1, b2⟩) (Heap.get?_push_of_some _ (Heap.get?_push_of_some _ e))
      · cases r2 with
        | error e => exact hr2
        | ok fl2 =>
          cases fl2 with
          | ret r =>
            obtain ⟨rfl, h', tk, rfl, hS', hk'⟩ := hr2
            repeat (any_goals (first | assumption | wp_step))
            exact h _ _ hS' hk'
          | _ => exact hr2.elim
    | _ => exact hr.elim
end
section
variable {X : Cx}
def tLenSetS (K : PySem.W.Frag) (ta : TE) : TE := fun σ H Q => ta σ H fun x H1 => ∃ (l : Addr) (xs : List Str), x = .ref l ∧ SqL K H1 l (xs.map V.str) ∧ xs.length ≤ 4000 ∧ Q (.int ((dist xs).length : Nat)) H1
theorem pe_lenSetS {a : Expr} {ta : TE} {p p2 q pos : Pos} (hc : X.calm = true) (hg : Gl X "len") (hm : X.mg "len" = none) (hg2 : Gl X "set") (hm2 : X.mg "set" = none) (ha : PE X a ta) (na : starEach [a] X.env = (false, eval a X.env) :: starEach [] X.env := by rfl) :
    PE X (.Call (.Name "len" p) [.Call (.Name "set" p2) [a] [] q] [] pos) (tLenSetS X.K ta) := by
  refine ⟨fun pins s σ H Q I h => ?_⟩
  refine Call_ (ld_blt I hg hm boot_len ?_)
  refine PyProof.Rows.callWith_builtin1 (PyProof.Rows.args_cons ?_ rfl) rfl rfl
  refine Call_ (ld_blt I hg2 hm2 boot_set ?_)
  refine PyProof.Rows.callWith_type1 (PyProof.Rows.args_cons (thn (ha.run pins s σ H _ I h) fun v s1 ⟨x, H1, I1, r1, q1⟩ => PyProof.Rows.args_nil ?_) na) na rfl
  obtain ⟨l, xs, rfl, hq, hl, q1⟩ := q1
  cases r1
  obtain ⟨its, r, pl, hz⟩ := I1.list hq
  have len : its.toArray.size = xs.length := by rw [List.size_toArray, ← r.length, List.length_map]
  refine set_strs (I1.ok.hd hc) pl.isList (by simpa using L2.strsAre_of r) hl fun h' tk hS hk => ?_
  refine PyProof.Rows.args_nil ?_
  rw [len, List.take_length] at hS
  obtain ⟨o, es, ep, t, ho, hex, hd, _, _, _, hf, hn⟩ := hS
  have I2 : Inv X pins σ H1 { s1 with heap := h', toks := tk } := I1.kept fun b o e => hk b o (Heap.lt_size e) e
  have := dist_le xs
  exact call_len_set ho hex hd hf (by rw [hn]; omega) ⟨.int ((dist xs).length : Nat), H1, I2.tok _, ⟨_, by rw [hn]⟩, q1⟩
end
/-! what it means -/
def strsOf : List D → Option (List Str)
  | [] => some []
  | .p (.str z) :: r => (strsOf r).map (z :: ·)
  | _ :: _ => none
def eLenSet (m : DE) : DE := fun ρ G => (m ρ G).bind fun d G => match (seqOf d G).bind strsOf with | some zs => if zs.length ≤ 4000 then okI ((dist zs).length : Nat) G else .stuck | none => .stuck
theorem strs_rel {C : Cf} {θ : List Addr} {H : Hp} : ∀ {ds : List D} {vs : List V} {zs : List Str}, RVL C θ H ds vs → strsOf ds = some zs → vs = zs.map V.str
  | [], _, zs, .nil, h => by cases h; rfl
  | .p (.str z) :: ds, _, zs, .cons r t, h => by
    simp only [strsOf, Option.map_eq_some_iff] at h
    obtain ⟨ys, h1, h2⟩ := h
    subst h2
    rw [strs_rel t h1]
    cases r with | p r => cases r; rfl
  | .p .none :: _, _, _, _, h => by cases h
  | .p (.bool _) :: _, _, _, _, h => by cases h
  | .p (.int _) :: _, _, _, _, h => by cases h
  | .p (.list _) :: _, _, _, _, h => by cases h
  | .p (.tuple _) :: _, _, _, _, h => by cases h
  | .p (.dict _) :: _, _, _, _, h => by cases h
  | .ref _ :: _, _, _, _, h => by cases h
  | .mt _ :: _, _, _, _, h => by cases h
  | .fn _ :: _, _, _, _, h => by cases h
  | .ty _ :: _, _, _, _, h => by cases h
  | .kl _ :: _, _, _, _, h => by cases h
section
variable {X : Cx} {fa : Nat → Option Addr} {W : WX}
theorem se_lenSet {a : Expr} {m : DE} {p p2 q pos : Pos} (hc : X.calm = true) (hg : Gl X "len") (hm : X.mg "len" = none) (hg2 : Gl X "set") (hm2 : X.mg "set" = none) (ha : SE X fa W a m) (na : starEach [a] X.env = (false, eval a X.env) :: starEach [] X.env := by rfl) :
    SE X fa W (.Call (.Name "len" p) [.Call (.Name "set" p2) [a] [] q] [] pos) (eLenSet m) := by
  refine wkE (pe_lenSetS hc hg hm hg2 hm2 ha na) fun σ H Q ⟨ρ, θ, G, R, e, h⟩ => ?_
  refine runE R e h fun d G1 θ1 H1 v st1 R1 e1 rv h1 => ?_
  cases q : (seqOf d G1).bind strsOf with
  | none => rw [q] at h1; exact h1.elim
  | some zs =>
    rw [q] at h1
    simp only at h1
    rw [Option.bind_eq_some_iff] at q
    obtain ⟨xs, q1, q2⟩ := q
    obtain ⟨l, ys, ev, hs, rl⟩ := seq_rel R1 rv q1
    by_cases hz : zs.length ≤ 4000
    · rw [if_pos hz] at h1
      exact ⟨l, zs, ev, by rw [← strs_rel rl q2]; exact hs, hz, h1 θ1 H1 Step.refl R1 _ (.p (.int _))⟩
    · rw [if_neg hz] at h1; exact h1.elim
end
end Ev
set_option Elab.async false
set_option linter.all false
set_option maxRecDepth 100000
/-! Ev26: sum(xs, []), xs a list of lists. -/
namespace Ev
open PySem PySem.Spec PyProof.Rows L2
/-- a list's object -/
abbrev lO (vs : List Value) (n : Nat) : Obj := { cls := .type "list", dict := none, data := .seq vs.toArray n, slots := #[] }
section
variable {prog : Program} {w : World} {A : Around} {R : Result → Shared → Prop} {I : Addr} {fp wr : List Addr} {G : Array GenState → Array GenState → Prop} {n : Nat} {P : Nat → Value → Prop} {St : Nat → Shared → Prop}
theorem pile_succ (ys : List Value) (zf : Nat → List Value) (i : Nat) : ys ++ (List.range (i + 1)).flatMap zf = (ys ++ (List.range i).flatMap zf) ++ zf i := by
  rw [List.range_succ, List.flatMap_append, List.append_assoc]
  simp
theorem sum_loop_lists (W : WalksS prog w A.in1 I fp wr G n P St) (S : Addr) (out : S ∉ fp) (N : Nat) (bf : Nat → Addr) (zf : Nat → List Value) (nf : Nat → Nat) (ys : List Value)
    (val : ∀ i v, P i v → v = .ref (bf i)) (ex : ∀ i s, St i s → ∀ a ∈ fp, a < s.heap.objs.size) (hN : N ≤ S) (fit : ∀ i, i ≤ n → (ys ++ (List.range i).flatMap zf).length ≤ sizeLine) :
    ∀ (k i : Nat) (s : Shared) (t : Addr) (c m : Nat), n - i = k → i ≤ n → St i s →
      s.heap.get? S = some (lO [.ref t] c) → t ∉ S :: wr → s.heap.get? t = some (lO (ys ++ (List.range i).flatMap zf) m) →
      (∀ j, j < n → bf j ∉ S :: wr ∧ s.heap.get? (bf j) = some (lO (zf j) (nf j))) →
      (∀ s' t' m', Moved (S :: wr) G s s' → s'.heap.get? t' = some (lO (ys ++ (List.range n).flatMap zf) m') → (i = n → t' = t) → (i < n → N ≤ t') → R (.ok (.ret (.ref t'))) s') →
      codeAny (model prog w) A (.builtin "sum.loop" ⟨[.ref I, .ref S, rawInt 2, rawInt 0], []⟩) R s := by
  have nw : S ∉ wr := fun h => out (W.sub _ h)
  have sub2 : ∀ b ∈ wr, b ∈ S :: wr := fun b hb => List.mem_cons_of_mem _ hb
  intro k
  induction k with
  | zero =>
    intro i s t c m hk hi hst hS ht hT hB fin
    have e : i = n := by omega
    subst e
    refine codeAny_builtin F.entry_sum_loop ?_
    rw [Around.under_plainId F.plain_sum_loop _]
    show wpAny _ A.in1 (seqItems? (.ref S) >>= _) _ _ s
    refine wpAny_bind (wpAny_seqItems hS rfl ?_)
    show wpAny _ A.in1 (tryCatch (pyNext (.ref I)) _ >>= _) _ _ s
    refine wpAny_bind (wpAny_tryCatch (W.done s _ _ hst fun s' hm => ?_))
    exact wpAny_pure (fin s' t m (hm.mono sub2) (hm.heap t _ (fun h => ht (sub2 _ h)) hT) (fun _ => rfl) fun h => absurd h (Nat.lt_irrefl _))
  | succ k ih =>
    intro i s t c m hk hi hst hS ht hT hB fin
    have hlt2 : i < n := by omega
    refine codeAny_builtin F.entry_sum_loop ?_
    rw [Around.under_plainId F.plain_sum_loop _]
    show wpAny _ A.in1 (seqItems? (.ref S) >>= _) _ _ s
    refine wpAny_bind (wpAny_seqItems hS rfl ?_)
    show wpAny _ A.in1 (tryCatch (pyNext (.ref I)) _ >>= _) _ _ s
    refine wpAny_bind (wpAny_tryCatch (W.item i s _ _ hlt2 hst fun v s' hP hst' hm => ?_))
    have ev := val i v hP
    subst ev
    have hS' := hm.heap S _ nw hS
    have hT' := hm.heap t _ (fun h => ht (sub2 _ h)) hT
    obtain ⟨nb, hb⟩ := hB i hlt2
    have hb' := hm.heap (bf i) _ (fun h => nb (sub2 _ h)) hb
    have f1 := fit (i + 1) hlt2
    rw [pile_succ] at f1
    show wpAny _ A.in1 ((holding [Value.ref (bf i)] (binaryOp .Add (.ref t) (.ref (bf i)))).attempt >>= _) _ _ _
    refine wpAny_bind (wpAny_attempt (wpAny_holding (PySem.P.add_list hT' hb' ?_ (by rw [List.length_append] at f1; simpa using f1))))
    rw [show (ys ++ (List.range i).flatMap zf).toArray ++ (zf i).toArray = ((ys ++ (List.range i).flatMap zf) ++ zf i).toArray by simp]
    have pN : N ≤ s'.heap.objs.size := Nat.le_trans hN (Nat.le_of_lt (Heap.lt_size hS'))
    have hS1 : (s'.heap.push (lO ((ys ++ (List.range i).flatMap zf) ++ zf i) 0)).get? S = some (lO [.ref t] c) := Heap.get?_push_of_some _ hS'
    show wpAny _ A.in1 (updateSeq S (fun _ => #[.ref s'.heap.objs.size]) >>= _) _ _ _
    refine wpAny_bind (wpAny_updateSeq hS1 rfl ?_)
    have hS2 := Heap.get?_update_self (Obj.mapSeq fun _ => #[Value.ref s'.heap.objs.size]) hS1 rfl
    refine wpAny_bind (wpAny_letGo ?_)
    have other : ∀ b o, b ≠ S → (s'.heap.push (lO ((ys ++ (List.range i).flatMap zf) ++ zf i) 0)).get? b = some o → (((s'.heap.push (lO ((ys ++ (List.range i).flatMap zf) ++ zf i) 0)).update S (Obj.mapSeq fun _ => #[Value.ref s'.heap.objs.size])).update S (Obj.mapSeq fun _ => #[Value.ref s'.heap.objs.size])).get? b = some o := fun b o hb e =>
      (Heap.get?_update_other _ _ (Ne.symm hb)).trans ((Heap.get?_update_other _ _ (Ne.symm hb)).trans e)
    have hS3 := Heap.get?_update_self (Obj.mapSeq fun _ => #[Value.ref s'.heap.objs.size]) hS2 rfl
    refine wpAny_bind (wpAny_updateSeq hS2 rfl (wpAny_pure ⟨plainId_quiet F.plain_sum_loop _, ih (i + 1) _ s'.heap.objs.size _ 0 (by omega) hlt2 (W.frame _ s' _ _ hst' (Nat.le_refl _) fun b hb o e => ?_) hS3 ?_ ?_ (fun j hj => ?_) fun s2 t2 m2 hm2 h2 a1 a2 => ?_⟩))
    · exact other b o (fun h => out (by rw [← h]; exact hb)) (Heap.get?_push_of_some _ e)
    · intro hmem
      rcases List.mem_cons.mp hmem with e | e
      · exact Nat.lt_irrefl _ (e ▸ Heap.lt_size hS' : s'.heap.objs.size < s'.heap.objs.size)
      · exact Nat.lt_irrefl _ (ex _ _ hst' _ (W.sub _ e))
    · rw [pile_succ]
      refine other _ _ (fun e => ?_) (Heap.get?_push_size _ rfl)
      exact Nat.lt_irrefl _ (e ▸ Heap.lt_size hS' : s'.heap.objs.size < s'.heap.objs.size)
    · obtain ⟨n1, b1⟩ := hB j hj
      exact ⟨n1, other _ _ (fun e => n1 (by rw [e]; exact List.mem_cons_self)) (Heap.get?_push_of_some _ (hm.heap _ _ (fun h => n1 (sub2 _ h)) b1))⟩
    · refine fin s2 t2 m2 (Moved.trans W.gtrans ((hm.mono sub2).then_heap (Nat.le_refl _) fun b o hb e => ?_) hm2) h2 (fun e => absurd e (by omega)) fun _ => ?_
      · exact other b o (fun h => hb (by rw [h]; exact List.mem_cons_self)) (Heap.get?_push_of_some _ e)
      · rcases Nat.lt_or_ge (i + 1) n with e | e
        · exact a2 e
        · rw [a1 (by omega)]; exact pN
end
theorem args_sum2 (a b : Value) : argsOk "sum" ⟨[a, b], []⟩ := by unfold argsOk; kernel_rfl
section
variable {prog : Program} {w : World} {A : Around} {E : Value → Shared → Prop} {s : Shared}
theorem sum_lists {l j : Addr} {items : Array Value} {ys : List Value} {m : Nat} {Q : Value → Shared → Prop} (hh : A.handled = none) (hl : s.heap.IsList l items) (bf : Nat → Addr) (zf : Nat → List Value) (nf : Nat → Nat)
    (hv : ∀ (i : Nat) (v : Value), items[i]? = some v → v = Value.ref (bf i)) (hb : ∀ i, i < items.size → s.heap.get? (bf i) = some (lO (zf i) (nf i))) (hj : s.heap.get? j = some (lO ys m)) (fit : ∀ i, i ≤ items.size → (ys ++ (List.range i).flatMap zf).length ≤ sizeLine)
    (h : ∀ (h' : Heap) (tk : Nat) (t : Addr) (m' : Nat), (∀ b o, s.heap.get? b = some o → h'.get? b = some o) → h'.get? t = some (lO (ys ++ (List.range items.size).flatMap zf) m') → (0 = items.size → t = j) → (0 < items.size → s.heap.objs.size ≤ t) → Q (.ref t) { s with heap := h', toks := tk }) :
    wpAny (model prog w) A (call (.builtin "sum") [.ref l, .ref j]) Q E s := by
  refine call_function_tree F.kind_sum F.plain_sum F.entry_sum (args_sum2 _ _) ?_
  unfold Builtin.«sum»
  simp only [List.length_cons, List.length_nil]
  rw [if_neg (by decide)]
  refine wpAny_bind (wpAny_of_eq (show Builtin.Builtins.bindParams "sum" ["start"] 0 ⟨[.ref j], []⟩ = pure [some (.ref j)] from rfl) ?_)
  refine wpAny_bind (wpAny_pyIter_list hl ?_)
  have tj : Shared.TypeIs { s with heap := s.heap.push { cls := .type "list_iterator", data := .fields #[.ref l, .int 0 0] } } (.ref j) "list" := ⟨_, Heap.get?_push_of_some _ hj, rfl⟩
  refine wpAny_bind (wpAny_pure ?_)
  simp only [List.forIn_cons, List.forIn_nil]
  refine wpAny_bind (wpAny_bind (wpAny_bind (wpAny_isInstance (b := false) tj F.sub_list_str ?_)))
  simp only [Bool.false_eq_true, if_false]
  refine wpAny_pure (wpAny_bind (wpAny_bind (wpAny_isInstance (b := false) tj F.sub_list_bytes ?_)))
  simp only [Bool.false_eq_true, if_false]
  refine wpAny_pure (wpAny_bind (wpAny_bind (wpAny_isInstance (b := false) tj F.sub_list_bytearray ?_)))
  simp only [Bool.false_eq_true, if_false]
  refine wpAny_pure (wpAny_pure ?_)
  refine wpAny_bind (wpAny_newList ?_)
  obtain ⟨ol, hol, hcl, nl, hdl⟩ := id hl
  have ll : l < s.heap.objs.size := Heap.lt_size hol
  have ne1 : l ≠ s.heap.objs.size := Nat.ne_of_lt ll
  have sz1 : (s.heap.push { cls := .type "list_iterator", data := .fields #[.ref l, .int 0 0] }).objs.size = s.heap.objs.size + 1 := Heap.size_push ..
  have l1 : (s.heap.push { cls := .type "list_iterator", data := .fields #[.ref l, .int 0 0] }).IsList l items := hl.push _
  have ll1 : l < s.heap.objs.size + 1 := Nat.lt_succ_of_lt ll
  have lj : j < s.heap.objs.size := Heap.lt_size hj
  have W := (Walks.list (prog := prog) (w := w) (A := A.in1) hh s.heap.objs.size l ne1 items).toS
  have out : ∀ b, b < s.heap.objs.size → b ∉ (s.heap.push { cls := .type "list_iterator", data := .fields #[.ref l, .int 0 0] }).objs.size :: [s.heap.objs.size] := fun b hb hm => by
    rw [sz1] at hm
    rcases List.mem_cons.mp hm with e | e
    · exact Nat.lt_irrefl _ (Nat.lt_trans (Nat.lt_succ_self _) (e ▸ hb : s.heap.objs.size + 1 < s.heap.objs.size))
    · exact Nat.lt_irrefl _ ((List.mem_singleton.mp e) ▸ hb : s.heap.objs.size < s.heap.objs.size)
  refine wpAny_pure ⟨plainId_quiet F.plain_sum_loop _, sum_loop_lists W (s.heap.push { cls := .type "list_iterator", data := .fields #[.ref l, .int 0 0] }).objs.size ?_ s.heap.objs.size bf zf nf ys (fun i v => hv i v) ?_ (by rw [sz1]; exact Nat.le_succ _) fit (items.size - 0) 0 _ j _ m rfl (Nat.zero_le _) ⟨?_, ?_⟩ (Heap.get?_push_size _ rfl) (out j lj) ?_ (fun i hi => ⟨out _ (Heap.lt_size (hb i hi)), Heap.get?_push_of_some _ (Heap.get?_push_of_some _ (hb i hi))⟩) fun s' t' m' hm ht a1 a2 => ?_⟩
  · rw [sz1]
    intro hm
    simp only [List.mem_cons, List.not_mem_nil, or_false] at hm
    rcases hm with e | e
    · exact absurd e (Nat.succ_ne_self _)
    · rw [← e] at ll1; exact Nat.lt_irrefl _ ll1
  · intro i s2 st a ha
    simp only [List.mem_cons, List.not_mem_nil, or_false] at ha
    obtain ⟨⟨o1, e1, _⟩, ⟨o2, e2, _⟩⟩ := st
    rcases ha with e | e
    · rw [e]; exact Heap.lt_size e1
    · rw [e]; exact Heap.lt_size e2
  · exact ⟨_, Heap.get?_push_of_some _ (Heap.get?_push_size _ rfl), rfl, rfl⟩
  · exact l1.push _
  · simp only [List.range_zero, List.flatMap_nil, List.append_nil]
    exact Heap.get?_push_of_some _ (Heap.get?_push_of_some _ hj)
  · obtain ⟨h', g', d', tk', os'⟩ := s'
    have eg : g' = s.gens := hm.gens
    have ed : d' = s.drawn := hm.drawn
    have eo : os' = s.os := hm.os
    subst eg
    subst ed
    subst eo
    exact h h' tk' t' m' (fun b o e => hm.heap b o (out b (Heap.lt_size e)) (Heap.get?_push_of_some _ (Heap.get?_push_of_some _ e))) ht a1 a2
end
/-! over the hand layer -/
def rSumL (K : PySem.W.Frag) : ClR := fun vs H Q => ∃ (a j : Addr) (bs : List Addr) (zss : List (List V)) (ys : List V), vs = [.ref a, .ref j] ∧ SqL K H a (bs.map V.ref) ∧ H j = some (.lst ys) ∧ zss.length = bs.length ∧
  (∀ (i : Nat) (b : Addr), bs[i]? = some b → ∃ zs, zss[i]? = some zs ∧ H b = some (.lst zs)) ∧ (ys ++ zss.flatten).length ≤ sizeLine ∧ (bs = [] → Q (.ref j) H) ∧ (bs ≠ [] → ∀ p, H p = none → Q (.ref p) (L2.upd H p (.lst (ys ++ zss.flatten))))
theorem flatten_take {α : Type} (zss : List (List α)) (i : Nat) : (List.range i).flatMap (fun k => zss.getD k []) = (zss.take i).flatten := by
  induction i with
  | zero => simp
  | succ i ih =>
    rw [List.range_succ, List.flatMap_append, ih, List.take_add_one, List.flatten_append]
    congr 1
    simp only [List.flatMap_cons, List.flatMap_nil, List.append_nil, List.getD_eq_getElem?_getD]
    cases zss[i]? <;> simp
theorem vals_flat : ∀ {zss : List (List V)} {uss : List (List Value)}, zss.length = uss.length → (∀ (i : Nat) (zs : List V), zss[i]? = some zs → ∃ us, uss[i]? = some us ∧ Vals zs us) → Vals zss.flatten uss.flatten
  | [], [], _, _ => .nil
  | zs :: zss, us :: uss, hl, h => by
    obtain ⟨us', e, r⟩ := h 0 zs rfl
    cases e
    rw [List.flatten_cons, List.flatten_cons]
    exact r.append (vals_flat (by simpa using hl) fun i z hz => h (i + 1) z (by simpa using hz))
  | [], _ :: _, hl, _ => by simp at hl
  | _ :: _, [], hl, _ => by simp at hl
theorem vals_refs : ∀ {bs : List Addr} {its : List Value}, Vals (bs.map V.ref) its → its = bs.map Value.ref
  | [], _, .nil => rfl
  | b :: bs, _, .cons r t => by cases r; rw [vals_refs t]; rfl
theorem len_flat {zss : List (List V)} {uss : List (List Value)} (h : Vals zss.flatten uss.flatten) : zss.flatten.length = uss.flatten.length := h.length
section
variable {X : Cx}
theorem cr_sumL (hc : X.calm = true) : CallR X (.builtin "sum") (rSumL X.K) := by
  intro pins s σ H vs us Q I r h
  obtain ⟨a, j, bs, zss, ys, rfl, hs, hj, hzl, hzs, hfit, q0, q1⟩ := h
  obtain ⟨its, rv, hl, _⟩ := I.list hs
  have eits := vals_refs rv
  obtain ⟨zj, itj, nj, rj, _, ej⟩ := I.lstM hj
  have us2 : us = [.ref a, .ref j] := by
    cases r with
    | cons r1 r2 => cases r2 with
      | cons r2 r3 => cases r3; cases r1; cases r2; rfl
  rw [us2]
  have pick : ∀ i : Nat, ∃ p : List Value × Nat, ∀ b, bs[i]? = some b → ∃ zs, zss[i]? = some zs ∧ Vals zs p.1 ∧ s.heap.get? b = some (lO p.1 p.2) := fun i => by
    cases e : bs[i]? with
    | none => exact ⟨([], 0), fun b z => by cases z⟩
    | some b =>
      obtain ⟨zs, e1, e2⟩ := hzs i b e
      obtain ⟨_, it, n, rz, _, ez⟩ := I.lstM e2
      exact ⟨(it, n), fun b' z => by cases z; exact ⟨zs, e1, rz, ez⟩⟩
  obtain ⟨f, hf⟩ := Classical.axiomOfChoice pick
  have sz : its.toArray.size = bs.length := by rw [eits]; simp
  have uz : Vals zss.flatten (((List.range bs.length).map fun i => (f i).1)).flatten := vals_flat (by simp [hzl]) fun i zs hz => by
    have hi : i < bs.length := by rw [← hzl]; exact (List.getElem?_eq_some_iff.mp hz).1
    obtain ⟨zs', e1, e2, _⟩ := hf i bs[i] (List.getElem?_eq_getElem hi)
    rw [hz] at e1
    cases e1
    exact ⟨(f i).1, by rw [List.getElem?_map, List.getElem?_range hi]; rfl, e2⟩
  have pile : ∀ i, i ≤ bs.length → (itj ++ (List.range i).flatMap fun k => (f k).1).length ≤ sizeLine := fun i hi => by
    refine Nat.le_trans ?_ hfit
    rw [List.length_append, List.length_append, ← rj.length, uz.length]
    have e1 : ((List.range bs.length).map fun i => (f i).1).flatten = (List.range bs.length).flatMap fun k => (f k).1 := by rw [List.flatMap_def]
    rw [e1]
    have e2 : List.range bs.length = List.range i ++ (List.range (bs.length - i)).map (i + ·) := by
      rw [← List.range_add]; congr 1; omega
    rw [e2, List.flatMap_append, List.length_append]
    omega
  refine sum_lists (I.ok.hd hc) hl.isList (fun i => bs.getD i 0) (fun i => (f i).1) (fun i => (f i).2) (fun i v hv => ?_) (fun i hi => ?_) ej (by rw [sz]; exact pile) fun h' tk t m' hk ht a1 a2 => ?_
  · rw [eits] at hv
    simp only [List.getElem?_toArray, List.getElem?_map, Option.map_eq_some_iff] at hv
    obtain ⟨b, hb, rfl⟩ := hv
    rw [List.getD_eq_getElem?_getD, hb]; rfl
  · rw [sz] at hi
    obtain ⟨_, _, _, e⟩ := hf i bs[i] (List.getElem?_eq_getElem hi)
    rw [List.getD_eq_getElem?_getD, List.getElem?_eq_getElem hi]
    exact e
  · rw [sz] at ht a1 a2
    cases bs with
    | nil => 
      rw [a1 rfl]
      exact ⟨.ref j, H, I.kept hk, rfl, q0 rfl⟩
    | cons b bs =>
      have le := a2 (by simp)
      refine ⟨.ref t, _, I.laid (o := .lst (ys ++ zss.flatten)) hk le ⟨hfit, _, m', ?_, ht⟩, rfl, q1 (by simp) t (I.hok.fresh le)⟩
      refine rj.append ?_
      rw [List.flatMap_def]
      exact uz
end
/-! what it means -/
def listsOf (G : GH) : List D → Option (List (List D))
  | [] => some []
  | .ref i :: r => (match lstAt G i with | some ds => (listsOf G r).map (ds :: ·) | none => none)
  | _ :: _ => none
def fSum2 : Fn := fun as G => match as with
  | [d, .ref j] => (match seqOf d G, lstAt G j with
    | some xs, some ys => (match listsOf G xs with
      | some zss => if (ys ++ zss.flatten).length ≤ sizeLine then (if xs.isEmpty then .ok (.ref j) G else newL (ys ++ zss.flatten) G) else .stuck
      | none => .stuck)
    | _, _ => .stuck)
  | _ => .stuck
theorem lists_rel {C : Cf} {θ : List Addr} {H : Hp} {G : GH} (R : Rel C θ H G) : ∀ {xs : List D} {vs : List V} {zss : List (List D)}, RVL C θ H xs vs → listsOf G xs = some zss → ∃ (bs : List Addr) (wss : List (List V)), vs = bs.map V.ref ∧ wss.length = bs.length ∧ (∀ (i : Nat) (b : Addr), bs[i]? = some b → ∃ zs, wss[i]? = some zs ∧ H b = some (.lst zs)) ∧ RVL C θ H zss.flatten wss.flatten ∧ (bs = [] ↔ xs = [])
  | [], _, zss, .nil, h => by cases h; exact ⟨[], [], rfl, rfl, fun i b e => by simp at e, .nil, by simp⟩
  | .ref i :: xs, _, zss, .cons r t, h => by
    unfold listsOf at h
    cases q : lstAt G i with
    | none => rw [q] at h; cases h
    | some ds =>
      rw [q] at h
      simp only [Option.map_eq_some_iff] at h
      obtain ⟨zs2, h1, h2⟩ := h
      subst h2
      obtain ⟨bs, wss, e1, e2, e3, e4, _⟩ := lists_rel R t h1
      cases r with
      | @ref _ a hi =>
        obtain ⟨ws, hw, rw_⟩ := lstAt_rel R hi q
        refine ⟨a :: bs, ws :: wss, by rw [e1]; rfl, by simp [e2], fun k b e => ?_, ?_, by simp⟩
        · cases k with
          | zero => cases e; exact ⟨ws, rfl, hw⟩
          | succ k => exact e3 k b (by simpa using e)
        · rw [List.flatten_cons, List.flatten_cons]
          exact rw_.append e4
  | .p _ :: _, _, _, _, h => by cases h
  | .mt _ :: _, _, _, _, h => by cases h
  | .fn _ :: _, _, _, _, h => by cases h
  | .ty _ :: _, _, _, _, h => by cases h
  | .kl _ :: _, _, _, _, h => by cases h
theorem cl_sum2 {C : Cf} : ClD C fSum2 (rSumL C.K) := by
  intro θ G H ds vs Q E R rv h
  unfold fSum2 at h
  split at h
  · rename_i d j
    obtain ⟨v, w, e, r1, r2⟩ := two_val rv
    cases q : seqOf d G with
    | none => simp only [q] at h; exact h.elim
    | some xs =>
      cases qy : lstAt G j with
      | none => simp only [q, qy] at h; exact h.elim
      | some ys =>
        simp only [q, qy] at h
        cases qz : listsOf G xs with
        | none => rw [qz] at h; exact h.elim
        | some zss =>
          rw [qz] at h
          simp only at h
          obtain ⟨a, us, ev, hs, rl⟩ := seq_rel R r1 q
          obtain ⟨bs, wss, e1, e2, e3, e4, e5⟩ := lists_rel R rl qz
          cases r2 with
          | @ref _ aj hj =>
            obtain ⟨vy, hy, ry⟩ := lstAt_rel R hj qy
            have rall := ry.append e4
            by_cases hz : (ys ++ zss.flatten).length ≤ sizeLine
            · rw [if_pos hz] at h
              refine ⟨a, aj, bs, wss, vy, by rw [e, ev], by rw [← e1]; exact hs, hy, e2, e3, by rw [← rall.length]; exact hz, fun hb => ?_, fun hb p hp => ?_⟩
              · have : xs.isEmpty = true := by rw [e5.mp hb]; rfl
                rw [if_pos this] at h
                exact h θ H Step.refl R _ (.ref hj)
              · have : ¬ xs.isEmpty = true := fun q => hb (e5.mpr (List.isEmpty_iff.mp q))
                rw [if_neg this] at h
                exact new_lst R rall hp h
            · rw [if_neg hz] at h; exact h.elim
  · exact h.elim
end Ev
set_option Elab.async false
set_option linter.all false
set_option maxRecDepth 100000
/-! Ev27: clauses without a name. -/
namespace Ev
open PySem PySem.Spec PyProof.Rows L2
theorem Er0.names {X : Cx} {fa : Nat → Option Addr} {c : Nat} {x : Str} {bm : List Value} (T : Er0 X.K X.mg fa c x bm) (hg : Gl X x) (hd : (x == ("__debug__" : Str)) = false := by decide) : Names X x (.ref (adr fa c)) := ⟨hg, hd, .inl T.m⟩
end Ev
set_option Elab.async false
set_option linter.all false
set_option maxRecDepth 100000
/-! Wp1: what a meaning comes to: weakest preconditions over ends of runs; rules by the nodes of meanings. -/
namespace Ev
open PySem PySem.Spec PyProof.Rows

abbrev XP := Nat → List (Str × D) → GH → Prop
abbrev NoX : XP := fun _ _ _ => False
structure Post where
  nx : Rho → GH → Prop
  rt : D → GH → Prop
  bk : Rho → GH → Prop
  ct : Rho → GH → Prop
  xc : Nat → List (Str × D) → Rho → GH → Prop
def wp {α : Type} (r : Res α) (P : α → GH → Prop) (X : XP) : Prop := match r with
  | .ok a G => P a G
  | .exc c fs G => X c fs G
  | .stuck => False
def wpS (r : SRes) (Q : Post) : Prop := match r with
  | .nx ρ G => Q.nx ρ G
  | .rt d G => Q.rt d G
  | .bk ρ G => Q.bk ρ G
  | .ct ρ G => Q.ct ρ G
  | .exc c fs ρ G => Q.xc c fs ρ G
  | .stuck => False
section
variable {α β : Type} {P P' : α → GH → Prop} {X X' : XP} {ρ : Rho} {G : GH} {Q : Post}
theorem wp_bind {r : Res α} {k : α → GH → Res β} {P : β → GH → Prop} : wp (r.bind k) P X = wp r (fun a G => wp (k a G) P X) X := by cases r <;> rfl
theorem wp_bindS {r : Res α} {k : α → GH → SRes} : wpS (r.bindS ρ k) Q = wp r (fun a G => wpS (k a G) Q) (fun c fs G => Q.xc c fs ρ G) := by cases r <;> rfl
theorem wp_ok {a : α} : wp (.ok a G) P X = P a G := rfl
theorem wp_exc {c : Nat} {fs : List (Str × D)} : wp (.exc c fs G : Res α) P X = X c fs G := rfl
theorem wp_stuck : wp (.stuck : Res α) P X = False := rfl
theorem wp_mono {r : Res α} (h : wp r P X) (k : ∀ a G, P a G → P' a G) (x : ∀ c fs G, X c fs G → X' c fs G := by exact fun _ _ _ h => h.elim) : wp r P' X' := by
  cases r with
  | ok a G => exact k a G h
  | exc c fs G => exact x c fs G h
  | stuck => exact h
theorem wp_noExc {r : Res α} : wp (noExc r) P X = wp r P NoX := by cases r <;> rfl
theorem wp_guard {p : Prop} [Decidable p] {r : Res α} : wp (if p then r else .stuck) P X = (p ∧ wp r P X) := by
  by_cases h : p
  · rw [if_pos h]; exact propext ⟨fun q => ⟨h, q⟩, fun q => q.2⟩
  · rw [if_neg h]; exact propext ⟨fun q => q.elim, fun q => h q.1⟩
theorem wp_some {r : Res α} (h : wp r P NoX) : ∃ a G, r = .ok a G ∧ P a G := by
  cases r with
  | ok a G => exact ⟨a, G, rfl, h⟩
  | _ => exact h.elim
theorem wp_of {r : Res α} {a : α} (e : r = .ok a G) (h : P a G) : wp r P X := by rw [e]; exact h
/-! statements -/
theorem wpS_nx : wpS (.nx ρ G) Q = Q.nx ρ G := rfl
theorem wpS_rt {d : D} : wpS (.rt d G) Q = Q.rt d G := rfl
theorem wpS_mono {r : SRes} {Q' : Post} (h : wpS r Q) (h1 : ∀ ρ G, Q.nx ρ G → Q'.nx ρ G) (h2 : ∀ d G, Q.rt d G → Q'.rt d G) (h3 : ∀ ρ G, Q.bk ρ G → Q'.bk ρ G) (h4 : ∀ ρ G, Q.ct ρ G → Q'.ct ρ G) (h5 : ∀ c fs ρ G, Q.xc c fs ρ G → Q'.xc c fs ρ G) : wpS r Q' := by
  cases r with
  | nx ρ G => exact h1 _ _ h
  | rt d G => exact h2 _ _ h
  | bk ρ G => exact h3 _ _ h
  | ct ρ G => exact h4 _ _ h
  | exc c fs ρ G => exact h5 _ _ _ _ h
  | stuck => exact h
theorem wpS_seq {s t : DS} : wpS (sSeq s t ρ G) Q = wpS (s ρ G) { Q with nx := fun ρ G => wpS (t ρ G) Q } := by
  unfold sSeq
  cases s ρ G <;> rfl
theorem wpS_set {i : Nat} {e : DE} : wpS (sSet i e ρ G) Q = wp (e ρ G) (fun d G => Q.nx (ρ.set i (some d)) G) (fun c fs G => Q.xc c fs ρ G) := wp_bindS
theorem wpS_ret {e : DE} : wpS (sRet e ρ G) Q = wp (e ρ G) (fun d G => Q.rt d G) (fun c fs G => Q.xc c fs ρ G) := wp_bindS
theorem wpS_ex {e : DE} : wpS (sEx e ρ G) Q = wp (e ρ G) (fun _ G => Q.nx ρ G) (fun c fs G => Q.xc c fs ρ G) := wp_bindS
theorem wpS_pass : wpS (sPass ρ G) Q = Q.nx ρ G := rfl
theorem wpS_if {t : DT} {a b : DS} : wpS (sIf t a b ρ G) Q = wp (t ρ G) (fun k G => if k then wpS (a ρ G) Q else wpS (b ρ G) Q) (fun c fs G => Q.xc c fs ρ G) := by
  unfold sIf
  rw [wp_bindS]
  congr 1
  funext k G
  cases k <;> rfl
theorem wpS_ite {c : Bool} {a b : SRes} : wpS (if c then a else b) Q = if c then wpS a Q else wpS b Q := by cases c <;> rfl
theorem wp_ite {c : Bool} {a b : Res α} : wp (if c = true then a else b) P X = if c = true then wp a P X else wp b P X := by cases c <;> rfl
theorem wpS_raise2 {c : Nat} {n1 n2 : Str} {as : DA} : wpS (sRaise2 c n1 n2 as ρ G) Q = wp (as ρ G) (fun ds G => match ds with | [d1, d2] => Q.xc c [(n2, d2), (n1, d1)] ρ G | _ => False) (fun c fs G => Q.xc c fs ρ G) := by
  unfold sRaise2
  rw [wp_bindS]
  congr 1
  funext ds G
  rcases ds with _ | ⟨d1, _ | ⟨d2, _ | _⟩⟩ <;> rfl
theorem wpS_raise0 {c : Nat} : wpS (sRaise0 c ρ G) Q = Q.xc c [] ρ G := rfl
theorem wpS_par {i j : Nat} {a b : DE} : wpS (sPar i j (aCons a (aCons b aNil)) ρ G) Q = wp (a ρ G) (fun x G => wp (b ρ G) (fun y G => Q.nx ((ρ.set i (some x)).set j (some y)) G) (fun c fs G => Q.xc c fs ρ G)) (fun c fs G => Q.xc c fs ρ G) := by
  simp only [sPar, aCons, aNil, wp_bindS, wp_bind, wp_ok, wpS_nx]
theorem wpS_par3 {i j l : Nat} {a b c : DE} : wpS (sPar3 i j l (aCons a (aCons b (aCons c aNil))) ρ G) Q = wp (a ρ G) (fun x G => wp (b ρ G) (fun y G => wp (c ρ G) (fun z G => Q.nx (((ρ.set i (some x)).set j (some y)).set l (some z)) G) (fun c fs G => Q.xc c fs ρ G)) (fun c fs G => Q.xc c fs ρ G)) (fun c fs G => Q.xc c fs ρ G) := by
  simp only [sPar3, aCons, aNil, wp_bindS, wp_bind, wp_ok, wpS_nx]
theorem wpS_asg {e : DE} {g : MG} : wpS (sAsg e g ρ G) Q = wp (e ρ G) (fun d G => match g d ρ G with | some (ρ, G) => Q.nx ρ G | none => False) (fun c fs G => Q.xc c fs ρ G) := by
  unfold sAsg oS
  rw [wp_bindS]
  congr 1
  funext d G
  cases g d ρ G <;> rfl
theorem wpS_store {o i e : DE} {st : D → D → D → GH → Option GH} : wpS (sStore o i e st ρ G) Q = wp (e ρ G) (fun d G => wp (o ρ G) (fun x G => wp (i ρ G) (fun y G => match st x y d G with | some G => Q.nx ρ G | none => False) (fun c fs G => Q.xc c fs ρ G)) (fun c fs G => Q.xc c fs ρ G)) (fun c fs G => Q.xc c fs ρ G) := by
  unfold sStore
  simp only [wp_bindS]
  congr 1
  funext d G
  congr 1
  funext x G
  congr 1
  funext y G
  cases st x y d G <;> rfl
/-! expressions -/
theorem wp_eC {d : D} {P : D → GH → Prop} : wp (eC d ρ G) P X = P d G := rfl
theorem wp_eVar {i : Nat} {P : D → GH → Prop} : wp (eVar i ρ G) P X = match ρ[i]? with | some (some d) => P d G | _ => False := by
  unfold eVar
  cases ρ[i]? with
  | none => rfl
  | some o => cases o <;> rfl
theorem wp_eBin {f : Op2} {a b : DE} {P : D → GH → Prop} : wp (eBin f a b ρ G) P X = wp (a ρ G) (fun x G => wp (b ρ G) (fun y G => wp (f x y G) P X) X) X := by unfold eBin; simp only [wp_bind]
theorem wp_tCmp {f : Cm2} {a b : DE} {P : Bool → GH → Prop} : wp (tCmp f a b ρ G) P X = wp (a ρ G) (fun x G => wp (b ρ G) (fun y G => wp (oB (f x y G) G) P X) X) X := by unfold tCmp; simp only [wp_bind]
theorem wp_oB {o : Option Bool} {P : Bool → GH → Prop} : wp (oB o G) P X = match o with | some b => P b G | none => False := by cases o <;> rfl
theorem wp_eOfT {t : DT} {P : D → GH → Prop} : wp (eOfT t ρ G) P X = wp (t ρ G) (fun b G => P (.p (.bool b)) G) X := by unfold eOfT bD; simp only [wp_bind, wp_ok]
theorem wp_tChain {f g : Cm2} {a b c : DE} {P : Bool → GH → Prop} : wp (tChain f g a b c ρ G) P X = wp (a ρ G) (fun x G => wp (b ρ G) (fun y G => wp (oB (f x y G) G) (fun k G => if k then wp (c ρ G) (fun z G => wp (oB (g y z G) G) P X) X else P false G) X) X) X := by
  unfold tChain
  simp only [wp_bind, wp_ok, wp_ite]
theorem wp_tNotD {t : DT} {P : Bool → GH → Prop} : wp (tNotD t ρ G) P X = wp (t ρ G) (fun b G => P (!b) G) X := by unfold tNotD; simp only [wp_bind, wp_ok]
theorem wp_tAndD {t u : DT} {P : Bool → GH → Prop} : wp (tAndD t u ρ G) P X = wp (t ρ G) (fun b G => if b then wp (u ρ G) P X else P false G) X := by unfold tAndD; simp only [wp_bind, wp_ok, wp_ite]
theorem wp_tOrD {t u : DT} {P : Bool → GH → Prop} : wp (tOrD t u ρ G) P X = wp (t ρ G) (fun b G => if b then P true G else wp (u ρ G) P X) X := by unfold tOrD; simp only [wp_bind, wp_ok, wp_ite]
theorem wp_tOfE {e : DE} {P : Bool → GH → Prop} : wp (tOfE e ρ G) P X = wp (e ρ G) (fun d G => match d with | .p (.bool b) => P b G | _ => False) X := by
  unfold tOfE
  rw [wp_bind]
  congr 1
  funext d G
  cases d with
  | p q => cases q with
    | bool b => cases b <;> rfl
    | _ => rfl
  | _ => rfl
theorem wp_tTrue {P : Bool → GH → Prop} : wp (tTrue ρ G) P X = P true G := rfl
theorem wp_eAndD {a b : DE} {P : D → GH → Prop} : wp (eAndD a b ρ G) P X = wp (a ρ G) (fun d G => match d with | .p (.bool true) => wp (b ρ G) P X | .p (.bool false) => P (.p (.bool false)) G | _ => False) X := by
  unfold eAndD
  rw [wp_bind]
  congr 1
  funext d G
  cases d with
  | p q => cases q with
    | bool b => cases b <;> rfl
    | _ => rfl
  | _ => rfl
theorem wp_eOrD {a b : DE} {P : D → GH → Prop} : wp (eOrD a b ρ G) P X = wp (a ρ G) (fun d G => match d with | .p (.bool false) => wp (b ρ G) P X | .p (.bool true) => P (.p (.bool true)) G | _ => False) X := by
  unfold eOrD
  rw [wp_bind]
  congr 1
  funext d G
  cases d with
  | p q => cases q with
    | bool b => cases b <;> rfl
    | _ => rfl
  | _ => rfl
theorem wp_eNotD {a : DE} {P : D → GH → Prop} : wp (eNotD a ρ G) P X = wp (a ρ G) (fun d G => match d with | .p (.bool b) => P (.p (.bool (!b))) G | _ => False) X := by
  unfold eNotD
  rw [wp_bind]
  congr 1
  funext d G
  cases d with
  | p q => cases q with
    | bool b => cases b <;> rfl
    | _ => rfl
  | _ => rfl
theorem wp_eIfD {t : DT} {a b : DE} {P : D → GH → Prop} : wp (eIfD t a b ρ G) P X = wp (t ρ G) (fun k G => if k then wp (a ρ G) P X else wp (b ρ G) P X) X := by unfold eIfD; simp only [wp_bind, wp_ite]
theorem wp_aNil {P : List D → GH → Prop} : wp (aNil ρ G) P X = P [] G := rfl
theorem wp_aCons {a : DE} {r : DA} {P : List D → GH → Prop} : wp (aCons a r ρ G) P X = wp (a ρ G) (fun d G => wp (r ρ G) (fun ds G => P (d :: ds) G) X) X := by unfold aCons; simp only [wp_bind, wp_ok]
theorem wp_eFn {f : Fn} {as : DA} {P : D → GH → Prop} : wp (eFn f as ρ G) P X = wp (as ρ G) (fun ds G => wp (f ds G) P X) X := by unfold eFn; simp only [wp_bind]
theorem wp_eTup {as : DA} {P : D → GH → Prop} : wp (eTup as ρ G) P X = wp (as ρ G) (fun ds G => ds.length ≤ sizeLine ∧ P (mkTup ds) G) X := by
  unfold eTup
  rw [wp_bind]
  congr 1
  funext ds G
  by_cases h : ds.length ≤ sizeLine
  · rw [if_pos h]; simp only [wp_ok, h, true_and]
  · rw [if_neg h]; simp only [wp_stuck, h, false_and]
theorem wp_newL {ds : List D} {P : D → GH → Prop} : wp (newL ds G) P X = P (.ref G.length) (G ++ [.lst ds]) := rfl
theorem wp_eLst {as : DA} {P : D → GH → Prop} : wp (eLst as ρ G) P X = wp (as ρ G) (fun ds G => ds.length ≤ sizeLine ∧ P (.ref G.length) (G ++ [.lst ds])) X := by
  unfold eLst
  rw [wp_bind]
  congr 1
  funext ds G
  by_cases h : ds.length ≤ sizeLine
  · rw [if_pos h]; simp only [wp_newL, h, true_and]
  · rw [if_neg h]; simp only [wp_stuck, h, false_and]
theorem wp_eCall1 {r : Fn} {a : DE} {P : D → GH → Prop} : wp (eCall 1 r (aCons a aNil) ρ G) P X = wp (a ρ G) (fun x G => wp (r [x] G) P X) X := by
  simp only [eCall, aCons, aNil, wp_bind, wp_ok]; rfl
theorem wp_eCall2 {r : Fn} {a b : DE} {P : D → GH → Prop} : wp (eCall 2 r (aCons a (aCons b aNil)) ρ G) P X = wp (a ρ G) (fun x G => wp (b ρ G) (fun y G => wp (r [x, y] G) P X) X) X := by
  simp only [eCall, aCons, aNil, wp_bind, wp_ok]; rfl
theorem wp_eCall3 {r : Fn} {a b c : DE} {P : D → GH → Prop} : wp (eCall 3 r (aCons a (aCons b (aCons c aNil))) ρ G) P X = wp (a ρ G) (fun x G => wp (b ρ G) (fun y G => wp (c ρ G) (fun z G => wp (r [x, y, z] G) P X) X) X) X := by
  simp only [eCall, aCons, aNil, wp_bind, wp_ok]; rfl
theorem wp_eCall4 {r : Fn} {a b c d : DE} {P : D → GH → Prop} : wp (eCall 4 r (aCons a (aCons b (aCons c (aCons d aNil)))) ρ G) P X = wp (a ρ G) (fun x G => wp (b ρ G) (fun y G => wp (c ρ G) (fun z G => wp (d ρ G) (fun u G => wp (r [x, y, z, u] G) P X) X) X) X) X := by
  simp only [eCall, aCons, aNil, wp_bind, wp_ok]; rfl
theorem wp_eCallV1 {v i : Nat} {ar : Nat → Nat} {F : Nat → Fn} {a : DE} {P : D → GH → Prop} (h : ρ[v]? = some (some (.fn i))) (h1 : ar i = 1) : wp (eCallV v ar F (aCons a aNil) ρ G) P X = wp (a ρ G) (fun x G => wp (F i [x] G) P X) X := by
  unfold eCallV aCons aNil
  simp only [h, wp_bind, wp_ok, h1]; rfl
theorem wp_oNo {P : Option Int → GH → Prop} : wp (oNo ρ G) P X = P none G := rfl
theorem wp_oSome {e : DE} {P : Option Int → GH → Prop} : wp (oSome e ρ G) P X = wp (e ρ G) (fun d G => match d with | .p (.int i) => P (some i) G | _ => False) X := by
  unfold oSome
  rw [wp_bind]
  congr 1
  funext d G
  cases d with
  | p q => cases q with
    | bool b => cases b <;> rfl
    | _ => rfl
  | _ => rfl
theorem wp_eSl {e : DE} {lo hi : DO} {P : D → GH → Prop} : wp (eSl e lo hi ρ G) P X = wp (e ρ G) (fun d G => wp (lo ρ G) (fun l G => wp (hi ρ G) (fun u G => wp (slD d l u G) P X) X) X) X := by unfold eSl; simp only [wp_bind]
theorem wp_eM {T : String} {f : OpM} {o : DE} {as : DA} {P : D → GH → Prop} : wp (eM T f o as ρ G) P X = wp (o ρ G) (fun d G => tyD T d G = true ∧ wp (as ρ G) (fun ds G => wp (f d ds G) P X) X) X := by
  unfold eM
  rw [wp_bind]
  congr 1
  funext d G
  rw [wp_guard, wp_bind]
theorem wp_oM {o : Option α} : wp (oM o G) P X = match o with | some a => P a G | none => False := by cases o <;> rfl
theorem wp_iAny {e : DE} {P : Src → GH → Prop} : wp (iAny e ρ G) P X = wp (e ρ G) (fun d G => match srcOf d G with | some s => P s G | none => False) X := by
  unfold iAny
  rw [wp_bind]
  congr 1
  funext d G
  cases srcOf d G <;> rfl
theorem wp_iEnT {e : DE} {P : Src → GH → Prop} : wp (iEnT (aCons e aNil) ρ G) P X = wp (e ρ G) (fun d G => match itemsOf d with | some ds => P (srcET ds) G | none => False) X := by
  unfold iEnT aCons aNil
  simp only [wp_bind, wp_ok, wp_oM]
  congr 1
  funext d G
  cases itemsOf d <;> rfl
theorem wp_iRg1 {e : DE} {P : Src → GH → Prop} : wp (iRg1 (aCons e aNil) ρ G) P X = wp (e ρ G) (fun d G => match d with | .p (.int j) => rgOk j = true ∧ P (srcR 0 j.toNat) G | _ => False) X := by
  unfold iRg1 aCons aNil
  simp only [wp_bind, wp_ok]
  congr 1
  funext d G
  cases d with
  | p q => cases q with
    | int j =>
      simp only [ints1]
      rw [wp_guard, wp_ok]
    | _ => rfl
  | _ => rfl
theorem wp_iTxt {e : DE} {P : Src → GH → Prop} : wp (iTxt e ρ G) P X = wp (e ρ G) (fun d G => match d with | .p (.str z) => P (srcS z) G | _ => False) X := by
  unfold iTxt
  rw [wp_bind]
  congr 1
  funext d G
  cases d with
  | p y => cases y <;> rfl
  | _ => rfl
theorem wp_eRev {e : DE} {P : D → GH → Prop} : wp (eRev e ρ G) P X = wp (e ρ G) (fun d G => match itemsOf d with | some ds => P (mkTup ds.reverse) G | none => False) X := by
  unfold eRev
  rw [wp_bind]
  congr 1
  funext d G
  cases itemsOf d <;> rfl
/-! comprehensions, loops -/
theorem wp_eLc {it : MI} {g : MG} {tt : DT} {te : DE} {vs : List Nat} {P : D → GH → Prop} : wp (eLc it g tt te vs ρ G) P X = wp (it ρ G) (fun src G => src.n ≤ sizeLine ∧ wp (lcLoop src g tt te (rwipe ρ vs) src.n 0 [] G) (fun acc G => P (.ref G.length) (G ++ [.lst acc])) X) X := by
  unfold eLc
  rw [wp_bind]
  congr 1
  funext src G
  rw [wp_guard, wp_bind]; rfl
theorem wp_eDc {it : MI} {g : MG} {tt : DT} {tk tv : DE} {vs : List Nat} {P : D → GH → Prop} : wp (eDc it g tt tk tv vs ρ G) P X = wp (it ρ G) (fun src G => src.n < sizeLine ∧ wp (dcLoop src g tt tk tv (rwipe ρ vs) src.n 0 [] G) (fun acc G => P (.ref G.length) (G ++ [.dict acc])) X) X := by
  unfold eDc
  rw [wp_bind]
  congr 1
  funext src G
  rw [wp_guard, wp_bind]; rfl
theorem lc_inv {src : Src} {g : MG} {tt : DT} {te : DE} {P : List D → GH → Prop} (I : Nat → List D → GH → Prop)
    (step : ∀ k acc G, k < src.n → I k acc G → ∃ d ρ2, src.at_ G k = some d ∧ g d ρ G = some (ρ2, G) ∧ wp (tt ρ2 G) (fun b G => if b then wp (te ρ2 G) (fun y G => I (k + 1) (acc ++ [y]) G) NoX else I (k + 1) acc G) NoX)
    (fin : ∀ acc G, I src.n acc G → src.fin G = true ∧ P acc G) : ∀ (r k : Nat) (acc : List D) (G : GH), k + r = src.n → I k acc G → wp (lcLoop src g tt te ρ r k acc G) P X
  | 0, k, acc, G, hk, h => by
    have hk' : k = src.n := by omega
    subst hk'
    obtain ⟨f1, f2⟩ := fin acc G h
    unfold lcLoop
    rw [if_pos f1]
    exact f2
  | r + 1, k, acc, G, hk, h => by
    obtain ⟨d, ρ2, h1, h2, h3⟩ := step k acc G (by omega) h
    unfold lcLoop
    simp only [h1, h2, wp_bind, wp_noExc]
    refine wp_mono h3 fun b G b1 => ?_
    cases b with
    | true =>
      simp only [if_true, wp_bind, wp_noExc]
      exact wp_mono b1 fun y G y1 => lc_inv I step fin r (k + 1) _ G (by omega) y1
    | false => exact lc_inv I step fin r (k + 1) _ G (by omega) b1
theorem dc_inv {src : Src} {g : MG} {tt : DT} {tk tv : DE} {P : List (PyData × D) → GH → Prop} (I : Nat → List (PyData × D) → GH → Prop)
    (step : ∀ k acc G, k < src.n → I k acc G → ∃ d ρ2, src.at_ G k = some d ∧ g d ρ G = some (ρ2, G) ∧ wp (tt ρ2 G) (fun b G => if b then wp (tk ρ2 G) (fun y G => wp (tv ρ2 G) (fun z G => ∃ y', y = .p y' ∧ scK y' = true ∧ I (k + 1) (putD acc y' z) G) NoX) NoX else I (k + 1) acc G) NoX)
    (fin : ∀ acc G, I src.n acc G → src.fin G = true ∧ P acc G) : ∀ (r k : Nat) (acc : List (PyData × D)) (G : GH), k + r = src.n → I k acc G → wp (dcLoop src g tt tk tv ρ r k acc G) P X
  | 0, k, acc, G, hk, h => by
    have hk' : k = src.n := by omega
    subst hk'
    obtain ⟨f1, f2⟩ := fin acc G h
    unfold dcLoop
    rw [if_pos f1]
    exact f2
  | r + 1, k, acc, G, hk, h => by
    obtain ⟨d, ρ2, h1, h2, h3⟩ := step k acc G (by omega) h
    unfold dcLoop
    simp only [h1, h2, wp_bind, wp_noExc]
    refine wp_mono h3 fun b G b1 => ?_
    cases b with
    | true =>
      simp only [if_true, wp_bind, wp_noExc]
      refine wp_mono b1 fun y G y1 => ?_
      refine wp_mono y1 fun z G z1 => ?_
      obtain ⟨y', e, s, z1⟩ := z1
      subst e
      simp only [s, if_true]
      exact dc_inv I step fin r (k + 1) _ G (by omega) z1
    | false => exact dc_inv I step fin r (k + 1) _ G (by omega) b1
theorem wpS_for {it : MI} {g : MG} {body : DS} : wpS (sFor it g body ρ G) Q = wp (it ρ G) (fun src G => wpS (forLoop src g body src.n 0 ρ G) Q) (fun c fs G => Q.xc c fs ρ G) := by unfold sFor; simp only [wp_bindS]
theorem for_inv {src : Src} {g : MG} {body : DS} (I : Nat → Rho → GH → Prop)
    (step : ∀ k ρ G, k < src.n → I k ρ G → ∃ d ρ2 G2, src.at_ G k = some d ∧ g d ρ G = some (ρ2, G2) ∧ wpS (body ρ2 G2) ⟨I (k + 1), Q.rt, Q.nx, I (k + 1), Q.xc⟩)
    (fin : ∀ ρ G, I src.n ρ G → src.fin G = true ∧ Q.nx ρ G) : ∀ (r k : Nat) (ρ : Rho) (G : GH), k + r = src.n → I k ρ G → wpS (forLoop src g body r k ρ G) Q
  | 0, k, ρ, G, hk, h => by
    have hk' : k = src.n := by omega
    subst hk'
    obtain ⟨f1, f2⟩ := fin ρ G h
    unfold forLoop
    rw [if_pos f1]
    exact f2
  | r + 1, k, ρ, G, hk, h => by
    obtain ⟨d, ρ2, G2, h1, h2, h3⟩ := step k ρ G (by omega) h
    unfold forLoop
    simp only [h1, h2]
    cases q : body ρ2 G2 with
    | nx ρ3 G3 => rw [q] at h3; exact for_inv I step fin r (k + 1) ρ3 G3 (by omega) h3
    | ct ρ3 G3 => rw [q] at h3; exact for_inv I step fin r (k + 1) ρ3 G3 (by omega) h3
    | bk ρ3 G3 => rw [q] at h3; exact h3
    | rt d3 G3 => rw [q] at h3; exact h3
    | exc c fs ρ3 G3 => rw [q] at h3; exact h3
    | stuck => rw [q] at h3; exact h3
theorem wp_enter {n m : Nat} {body : DS} {ds : List D} {P : D → GH → Prop} (hl : ds.length = n) (h : wpS (body (ds.map some ++ List.replicate m none) G) ⟨fun _ G => P (.p .none) G, P, fun _ _ => False, fun _ _ => False, fun c fs _ G => X c fs G⟩) : wp (enter n m body ds G) P X := by
  unfold enter
  rw [if_pos hl]
  cases q : body (ds.map some ++ List.replicate m none) G <;> rw [q] at h <;> first | exact h | exact h.elim
end
end Ev
set_option Elab.async false
set_option linter.all false
set_option maxRecDepth 100000
/-! Wp2: things, heaps that grow, calls seen from outside; operators on data. -/
namespace Ev
open PySem PySem.Spec PyProof.Rows

def Wf (G : GH) : Prop := G.all (ltO G.length) = true
theorem wf_nil : Wf [] := rfl
/-- G' is G with more behind it -/
def Grow (G G' : GH) : Prop := (∃ J, G' = G ++ J) ∧ Wf G'
theorem Grow.refl {G : GH} (h : Wf G) : Grow G G := ⟨⟨[], by simp⟩, h⟩
theorem Grow.trans {G G' G2 : GH} (a : Grow G G') (b : Grow G' G2) : Grow G G2 := by
  obtain ⟨⟨J, e⟩, _⟩ := a
  obtain ⟨⟨K, f⟩, w⟩ := b
  exact ⟨⟨J ++ K, by rw [f, e, List.append_assoc]⟩, w⟩
theorem Grow.wf {G G' : GH} (a : Grow G G') : Wf G' := a.2
theorem Grow.at {G G' : GH} (a : Grow G G') {i : Nat} {o : O} (h : G[i]? = some o) : G'[i]? = some o := by
  obtain ⟨⟨J, e⟩, _⟩ := a
  rw [e, List.getElem?_append_left (List.getElem?_eq_some_iff.mp h).1]; exact h
theorem Grow.lst {G G' : GH} (a : Grow G G') {i : Nat} {ds : List D} (h : lstAt G i = some ds) : lstAt G' i = some ds := by
  unfold lstAt at h ⊢
  cases q : G[i]? with
  | none => rw [q] at h; cases h
  | some o => rw [q] at h; rw [a.at q]; exact h
theorem lst_at {G : GH} {i : Nat} {ds : List D} (h : G[i]? = some (.lst ds)) : lstAt G i = some ds := by unfold lstAt; rw [h]
theorem at_lst {G : GH} {i : Nat} {ds : List D} (h : lstAt G i = some ds) : G[i]? = some (.lst ds) := by
  unfold lstAt at h
  cases q : G[i]? with
  | none => rw [q] at h; cases h
  | some o => cases o <;> rw [q] at h <;> cases h; rfl
mutual
theorem ltD_mono {n m : Nat} (h : n ≤ m) : ∀ {d : D}, ltD n d = true → ltD m d = true
  | .ref i, q => by simp only [ltD, decide_eq_true_eq] at q ⊢; omega
  | .mt ds, q => by simp only [ltD] at q ⊢; exact ltL_mono h q
  | .p _, _ => rfl
  | .fn _, _ => rfl
  | .ty _, _ => rfl
  | .kl _, _ => rfl
theorem ltL_mono {n m : Nat} (h : n ≤ m) : ∀ {ds : List D}, ltL n ds = true → ltL m ds = true
  | [], _ => rfl
  | d :: ds, q => by
    simp only [ltL, Bool.and_eq_true] at q ⊢
    exact ⟨ltD_mono h q.1, ltL_mono h q.2⟩
end
mutual
theorem ltD_sh {n m : Nat} : ∀ {d : D}, ltD m d = true → ltD (n + m) (shD n d) = true
  | .ref i, q => by simp only [ltD, shD, decide_eq_true_eq] at q ⊢; omega
  | .mt ds, q => by simp only [ltD, shD] at q ⊢; exact ltL_sh q
  | .p _, _ => rfl
  | .fn _, _ => rfl
  | .ty _, _ => rfl
  | .kl _, _ => rfl
theorem ltL_sh {n m : Nat} : ∀ {ds : List D}, ltL m ds = true → ltL (n + m) (shL n ds) = true
  | [], _ => rfl
  | d :: ds, q => by
    simp only [ltL, shL, Bool.and_eq_true] at q ⊢
    exact ⟨ltD_sh q.1, ltL_sh q.2⟩
end
theorem ltF_mono {α : Type} {n m : Nat} (h : n ≤ m) {fs : List (α × D)} (q : ltF n fs = true) : ltF m fs = true := by
  unfold ltF at q ⊢
  rw [List.all_eq_true] at q ⊢
  exact fun x hx => ltD_mono h (q x hx)
theorem ltF_sh {α : Type} {n m : Nat} {fs : List (α × D)} (q : ltF m fs = true) : ltF (n + m) (shF n fs) = true := by
  unfold ltF shF at *
  rw [List.all_eq_true] at q ⊢
  intro x hx
  obtain ⟨y, hy, e⟩ := List.mem_map.mp hx
  subst e
  exact ltD_sh (q y hy)
theorem ltO_mono {n m : Nat} (h : n ≤ m) {o : O} (q : ltO n o = true) : ltO m o = true := by
  cases o with
  | lst ds => exact ltL_mono h q
  | dict kvs => exact ltF_mono h q
  | inst c fs => exact ltF_mono h q
  | exc c fs => exact ltF_mono h q
theorem ltO_sh {n m : Nat} {o : O} (q : ltO m o = true) : ltO (n + m) (shO n o) = true := by
  cases o with
  | lst ds => exact ltL_sh q
  | dict kvs => exact ltF_sh q
  | inst c fs => exact ltF_sh q
  | exc c fs => exact ltF_sh q
theorem wf_push {G : GH} {o : O} (h : Wf G) (q : ltO (G.length + 1) o = true) : Wf (G ++ [o]) := by
  unfold Wf at *
  rw [List.all_eq_true] at *
  intro x hx
  rw [List.length_append, List.length_singleton]
  rcases List.mem_append.mp hx with h1 | h1
  · exact ltO_mono (Nat.le_succ _) (h x h1)
  · rw [List.mem_singleton.mp h1]; exact q
theorem wf_join {G L : GH} (h : Wf G) (q : Wf L) : Wf (G ++ L.map (shO G.length)) := by
  unfold Wf at *
  rw [List.all_eq_true] at *
  intro x hx
  rw [List.length_append, List.length_map]
  rcases List.mem_append.mp hx with h1 | h1
  · exact ltO_mono (Nat.le_add_right _ _) (h x h1)
  · obtain ⟨y, hy, e⟩ := List.mem_map.mp h1
    subst e
    exact ltO_sh (q y hy)
theorem Grow.push {G : GH} {o : O} (h : Wf G) (q : ltO (G.length + 1) o = true) : Grow G (G ++ [o]) := ⟨⟨[o], rfl⟩, wf_push h q⟩
@[simp] theorem ltL_p (n : Nat) (ps : List PyData) : ltL n (ps.map .p) = true := by
  induction ps with
  | nil => rfl
  | cons p ps ih => simp [ltL, ltD, ih]
theorem ltL_iff {n : Nat} {ds : List D} : ltL n ds = true ↔ ∀ d ∈ ds, ltD n d = true := by
  induction ds with
  | nil => simp [ltL]
  | cons d ds ih => simp [ltL, ih]
theorem Grow.data {G : GH} {ps : List PyData} (h : Wf G) : Grow G (G ++ [.lst (ps.map .p)]) := Grow.push h (by simp [ltO])
theorem Grow.data' {G : GH} {ds : List D} (ps : List PyData) (h : Wf G) (e : ds = ps.map .p) : Grow G (G ++ [.lst ds]) := by rw [e]; exact Grow.data h
theorem Grow.bools {G : GH} {bs : List Bool} (h : Wf G) : Grow G (G ++ [.lst (bs.map fun b => .p (.bool b))]) := Grow.data' (bs.map .bool) h (by simp)
theorem Grow.ints {G : GH} {bs : List Int} (h : Wf G) : Grow G (G ++ [.lst (bs.map fun b => .p (.int b))]) := Grow.data' (bs.map .int) h (by simp)
theorem Wf.lst {G : GH} {i : Nat} {ds : List D} (h : Wf G) (e : lstAt G i = some ds) : ltL G.length ds = true := by
  have := List.all_eq_true.mp h _ (List.mem_of_getElem? (at_lst e))
  exact this

/-! ### things -/
mutual
def plainP : PyData → Bool
  | .none => true
  | .bool _ => true
  | .int _ => true
  | .str z => decide (z.length ≤ sizeLine)
  | .tuple ds => decide (ds.length ≤ sizeLine) && plainsP ds
  | .list _ => false
  | .dict _ => false
def plainsP : List PyData → Bool
  | [] => true
  | d :: ds => plainP d && plainsP ds
end
theorem plainsP_iff {ds : List PyData} : plainsP ds = true ↔ ∀ d ∈ ds, plainP d = true := by
  induction ds with
  | nil => simp [plainsP]
  | cons d ds ih => simp [plainsP, ih]
inductive Th (G : GH) : D → Prop
  | p {d : PyData} : plainP d = true → Th G (.p d)
  | ref {i : Nat} {ds : List D} : lstAt G i = some ds → Th G (.ref i)
  | mt {ds : List D} : ds.length ≤ sizeLine → (∀ d ∈ ds, Th G d) → Th G (.mt ds)
theorem Th.imp {G G' : GH} (h : ∀ i ds, lstAt G i = some ds → lstAt G' i = some ds) : ∀ {d : D}, Th G d → Th G' d := by
  intro d t
  induction t with
  | p h => exact .p h
  | ref q => exact .ref (h _ _ q)
  | mt hl _ ih => exact .mt hl ih
theorem Th.grow {G G' : GH} (a : Grow G G') {d : D} (t : Th G d) : Th G' d := t.imp fun _ _ => a.lst
theorem Th.lt {G : GH} {d : D} (t : Th G d) : ltD G.length d = true := by
  induction t with
  | p h => rfl
  | ref q => exact decide_eq_true (List.getElem?_eq_some_iff.mp (at_lst q)).1
  | mt hl _ ih => simp only [ltD]; exact ltL_iff.mpr ih
theorem Grow.things {G : GH} {ds : List D} (h : Wf G) (t : ∀ d ∈ ds, Th G d) : Grow G (G ++ [.lst ds]) := Grow.push h (by
  simp only [ltO]
  exact ltL_mono (Nat.le_succ _) (ltL_iff.mpr fun d hd => (t d hd).lt))
theorem Th.items {G : GH} {d : D} {ds : List D} (t : Th G d) (h : itemsOf d = some ds) : ∀ x ∈ ds, Th G x := by
  cases t with
  | @p y q =>
    cases y with
    | tuple ys =>
      cases h
      intro x hx
      obtain ⟨z, hz, e⟩ := List.mem_map.mp hx
      subst e
      exact .p (plainsP_iff.mp (Bool.and_eq_true_iff.mp (show (decide (ys.length ≤ sizeLine) && plainsP ys) = true from q)).2 z hz)
    | _ => cases h
  | ref q => cases h
  | mt hl q => cases h; exact q
theorem Th.many {G : GH} {d : D} {ds : List D} (t : Th G d) (h : itemsOf d = some ds) : ds.length ≤ sizeLine := by
  cases t with
  | @p y q =>
    cases y with
    | tuple ys =>
      cases h
      simp only [plainP, Bool.and_eq_true, decide_eq_true_eq] at q
      rw [List.length_map]; exact q.1
    | _ => cases h
  | ref q => cases h
  | mt hl q => cases h; exact hl
theorem Th.pure0 {G : GH} {d : D} {ps : List PyData} {ds : List D} (h : pures ds = some ps) (hd : d ∈ ds) (t : Th G d) : Th [] d := by
  have e := pures_eq h
  subst e
  obtain ⟨z, hz, e⟩ := List.mem_map.mp hd
  subst e
  cases t with | p q => exact .p q
theorem items_mkTup (ds : List D) : itemsOf (mkTup ds) = some ds := by
  unfold mkTup
  cases q : pures ds with
  | none => rfl
  | some ps => rw [pures_eq q]; rfl
theorem Th.mk {G : GH} {ds : List D} (hl : ds.length ≤ sizeLine) (h : ∀ d ∈ ds, Th G d) : Th G (mkTup ds) := by
  unfold mkTup
  cases q : pures ds with
  | none => exact .mt hl h
  | some ps =>
    have e := pures_eq q
    subst e
    refine .p ?_
    simp only [plainP, Bool.and_eq_true, decide_eq_true_eq]
    refine ⟨by simpa using hl, ?_⟩
    exact plainsP_iff.mpr fun z hz => by
      cases h (.p z) (List.mem_map_of_mem hz) with | p q => exact q
/-! ### calls from outside -/
section
variable {r : Fn} {ds : List D} {G : GH}
theorem cut_back {J : GH} (w : Wf G) : ((G ++ J).take G.length).all (ltO G.length) = true ∧ (G ++ J).take G.length = G := by
  have e : (G ++ J).take G.length = G := by simp
  exact ⟨by rw [e]; exact w, e⟩
/-- a call that answers data and leaves the heap as it was -/
theorem loc_ret (C : GH → Prop) {R : PyData → Prop} {XR : Nat → List (Str × D) → Prop} (w : Wf G) (cG : C G) (c0 : ∀ ps, pures ds = some ps → C [])
    (H : ∀ G, Wf G → C G → wp (r ds G) (fun d G' => Grow G G' ∧ ∃ x, d = .p x ∧ R x) (fun c fs G' => Grow G G' ∧ purF fs = true ∧ XR c fs)) :
    wp (loc r ds G) (fun d G' => G' = G ∧ ∃ x, d = .p x ∧ R x) (fun c fs G' => Grow G G' ∧ XR c fs) := by
  unfold loc
  cases q : pures ds with
  | some ps =>
    have h := H [] wf_nil (c0 ps q)
    simp only
    unfold locP
    cases e : r ds [] with
    | ok d G' =>
      rw [e] at h
      obtain ⟨_, x, e2, hx⟩ := h
      subst e2
      exact ⟨rfl, x, rfl, hx⟩
    | exc c fs G' =>
      rw [e] at h
      obtain ⟨_, hp, hx⟩ := h
      simp only [hp, if_true]
      exact ⟨Grow.refl w, hx⟩
    | stuck => rw [e] at h; exact h.elim
  | none =>
    have h := H G w cG
    simp only
    unfold locM
    cases e : r ds G with
    | ok d G' =>
      rw [e] at h
      obtain ⟨⟨⟨J, eJ⟩, _⟩, x, e2, hx⟩ := h
      subst e2 eJ
      obtain ⟨c1, c2⟩ := cut_back (J := J) w
      simp only [c1, if_true]
      rw [c2]
      exact ⟨rfl, x, rfl, hx⟩
    | exc c fs G' =>
      rw [e] at h
      exact ⟨h.1, h.2.2⟩
    | stuck => rw [e] at h; exact h.elim
/-- .. that raises nothing -/
theorem loc_dat (C : GH → Prop) {R : PyData → Prop} (w : Wf G) (cG : C G) (c0 : ∀ ps, pures ds = some ps → C [])
    (H : ∀ G, Wf G → C G → wp (r ds G) (fun d G' => Grow G G' ∧ ∃ x, d = .p x ∧ R x) NoX) :
    wp (loc r ds G) (fun d G' => G' = G ∧ ∃ x, d = .p x ∧ R x) NoX :=
  wp_mono (loc_ret C (XR := fun _ _ => False) w cG c0 fun G w c => wp_mono (H G w c) fun _ _ h => h) (fun _ _ h => h) fun _ _ _ h => h.2.elim
/-- a call with data that answers a list of data -/
theorem loc_lst {ps es : List PyData} {ds : List D} {X : XP} (hd : pures ds = some ps) (H : wp (r ds []) (fun d G' => ∃ i, d = .ref i ∧ lstAt G' i = some (es.map .p)) NoX) {P : D → GH → Prop} (k : P (.ref G.length) (G ++ [.lst (es.map .p)])) : wp (loc r ds G) P X := by
  unfold loc
  simp only [hd]
  unfold locP
  obtain ⟨d, G', e, i, e2, h⟩ := wp_some H
  subst e2
  have : lstP G' i = some es := by unfold lstP; rw [at_lst h]; simp
  simp only [e, this]
  exact k
/-- a call with data that answers a dict of data -/
theorem loc_dic {ps : List PyData} {ds : List D} {kvs : List (Str × PyData)} {X : XP} (w : Wf G) (hd : pures ds = some ps) (H : wp (r ds []) (fun d G' => ∃ i, d = .ref i ∧ G'[i]? = some (.dict (kvs.map fun p => (PyData.str p.1, D.p p.2))) ∧ Wf G') NoX)
    {P : D → GH → Prop} (k : ∀ i G', G'[i]? = some (.dict (kvs.map fun p => (PyData.str p.1, D.p p.2))) → Grow G G' → P (.ref i) G') : wp (loc r ds G) P X := by
  unfold loc
  simp only [hd]
  unfold locP
  obtain ⟨d, G', e, i, e2, h, w2⟩ := wp_some H
  subst e2
  have : lstP G' i = none := by unfold lstP; rw [h]
  simp only [e, this]
  refine k _ _ ?_ ⟨⟨_, rfl⟩, wf_join w w2⟩
  rw [List.getElem?_append_right (Nat.le_add_right _ _), Nat.add_sub_cancel_left, List.getElem?_map, h]
  simp [shO, shF, shD]
theorem loc_mt {X : XP} {P : D → GH → Prop} (hd : pures ds = none) (H : wp (r ds G) (fun d G' => Grow G G' ∧ (∀ x, d ≠ .p x) ∧ P d G') X) : wp (loc r ds G) P X := by
  unfold loc
  simp only [hd]
  unfold locM
  cases e : r ds G with
  | ok d G' =>
    rw [e] at H
    obtain ⟨_, h1, h2⟩ := H
    cases d with
    | p x => exact absurd rfl (h1 x)
    | _ => exact h2
  | exc c fs G' => rw [e] at H; exact H
  | stuck => rw [e] at H; exact H.elim
end

/-! ### operators on data -/
section
variable {G : GH} {i j : Int} {a b z : Str} {d : D} {xs : List D}
abbrev dI (i : Int) : D := .p (.int i)
abbrev dS (z : Str) : D := .p (.str z)
theorem isi_tup (t : Th G d) : fIsi [d, .ty "tuple"] G = .ok (.p (.bool (itemsOf d).isSome)) G := by
  cases t with
  | @p y q => cases y <;> first | rfl | exact absurd (show false = true from q) Bool.false_ne_true
  | ref q => show (match (tyName G (.ref _)).bind fun a => isTy a "tuple" with | some b => Res.ok (D.p (.bool b)) G | none => .stuck) = _; simp only [tyName, at_lst q]; rfl
  | mt hl q => rfl
def strOf : D → Option Str
  | .p (.str z) => some z
  | _ => none
theorem isi_str (t : Th G d) : fIsi [d, .ty "str"] G = .ok (.p (.bool (strOf d).isSome)) G := by
  cases t with
  | @p y q => cases y <;> first | rfl | exact absurd (show false = true from q) Bool.false_ne_true
  | ref q => show (match (tyName G (.ref _)).bind fun a => isTy a "str" with | some b => Res.ok (D.p (.bool b)) G | none => .stuck) = _; simp only [tyName, at_lst q]; rfl
  | mt hl q => rfl
theorem len_items (h : itemsOf d = some xs) : fLen [d] G = .ok (dI xs.length) G := by
  cases d with
  | p y => cases y with
    | tuple ys => cases h; rfl
    | _ => cases h
  | mt ys => cases h; rfl
  | _ => cases h
theorem len_str (h : z.length ≤ sizeLine) : fLen [dS z] G = .ok (dI z.length) G := by
  show (if z.length ≤ sizeLine then okI z.length G else .stuck) = _
  rw [if_pos h]
theorem len_lst {l : Nat} (h : lstAt G l = some xs) : fLen [.ref l] G = .ok (dI xs.length) G := by
  show (match seqOf (.ref l) G with | some xs => okI xs.length G | none => _) = _
  simp only [seqOf, h]
theorem ix_items {x : D} (h : itemsOf d = some xs) (ha : L2.atI xs i = some x) : oIxA d (dI i) G = .ok x G := by
  cases d with
  | p y => cases y with
    | tuple ys => cases h; show (match (itemsOf (.p (.tuple ys))).bind fun ds => L2.atI ds i with | some d => Res.ok d G | none => .stuck) = _; simp only [itemsOf, Option.bind_some, ha]
    | _ => cases h
  | mt ys => cases h; show (match (itemsOf (.mt xs)).bind fun ds => L2.atI ds i with | some d => Res.ok d G | none => .stuck) = _; simp only [itemsOf, Option.bind_some, ha]
  | _ => cases h
theorem ix_lst {l : Nat} {x : D} (h : lstAt G l = some xs) (ha : L2.atI xs i = some x) : oIxA (.ref l) (dI i) G = .ok x G := by
  unfold oIxA dictAt
  simp only [at_lst h]
  unfold oIx
  simp only [h, Option.bind_some, ha]
theorem ix_dic {l : Nat} {kvs : List (PyData × D)} {k : PyData} {x : D} (h : G[l]? = some (.dict kvs)) (hf : keyFit kvs k = true) (ha : getK kvs k = some x) : oIxA (.ref l) (.p k) G = .ok x G := by
  unfold oIxA dictAt
  simp only [h, hf, ha, if_true]
theorem ix_str {c : Nat} (h : z.length ≤ sizeLine) (ha : L2.atI z.cps.toList i = some c) : oIxA (dS z) (dI i) G = .ok (dS ⟨#[c]⟩) G := by
  show (if z.length ≤ sizeLine then (match L2.atI z.cps.toList i with | some c => Res.ok (D.p (.str ⟨#[c]⟩)) G | none => .stuck) else .stuck) = _
  rw [if_pos h, ha]
theorem src_items (h : itemsOf d = some xs) : srcOf d G = some (srcV xs) := by
  cases d with
  | p y => cases y with
    | tuple ys => cases h; rfl
    | _ => cases h
  | mt ys => cases h; rfl
  | _ => cases h
theorem src_lst {l : Nat} (h : lstAt G l = some xs) : srcOf (.ref l) G = some (srcL l xs.length) := by
  show (lstAt G l).map (fun ds => srcL l ds.length) = _
  rw [h]; rfl
theorem oAdd_int : oAdd (dI i) (dI j) G = .ok (dI (i + j)) G := rfl
theorem oSub_int : oSub (dI i) (dI j) G = .ok (dI (i - j)) G := rfl
theorem oAdd_str (h : a.length + b.length ≤ sizeLine) : oAdd (dS a) (dS b) G = .ok (dS (a ++ b)) G := by
  show (if a.length + b.length ≤ sizeLine then Res.ok (D.p (.str (a ++ b))) G else .stuck) = _
  rw [if_pos h]
theorem oAdd_lst {l m : Nat} {ys : List D} (h : lstAt G l = some xs) (h2 : lstAt G m = some ys) (hs : xs.length + ys.length ≤ sizeLine) : oAdd (.ref l) (.ref m) G = .ok (.ref G.length) (G ++ [.lst (xs ++ ys)]) := by
  unfold oAdd
  simp only [h, h2]
  rw [if_pos hs]; rfl
theorem oAdd_items {e : D} {ys : List D} (h : itemsOf d = some xs) (h2 : itemsOf e = some ys) (hs : xs.length + ys.length ≤ sizeLine) : oAdd d e G = .ok (mkTup (xs ++ ys)) G := by
  have key : (match itemsOf d, itemsOf e with | some ds, some es => if ds.length + es.length ≤ sizeLine then Res.ok (mkTup (ds ++ es)) G else .stuck | _, _ => .stuck) = Res.ok (mkTup (xs ++ ys)) G := by
    simp only [h, h2]; rw [if_pos hs]
  cases d with
  | p y => cases y with
    | tuple _ => cases e with
      | p w => cases w with
        | tuple _ => exact key
        | _ => cases h2
      | mt _ => exact key
      | _ => cases h2
    | _ => cases h
  | mt _ => cases e with
      | p w => cases w with
        | tuple _ => exact key
        | _ => cases h2
      | mt _ => exact key
      | _ => cases h2
  | _ => cases h
theorem cEq_p {x y : PyData} : cEq (.p x) (.p y) G = eqP x y := by unfold cEq; simp only [snap_p]
theorem cNe_p {x y : PyData} : cNe (.p x) (.p y) G = (eqP x y).map (!·) := by unfold cNe; rw [cEq_p]
theorem cEq_int : cEq (dI i) (dI j) G = some (decide (i = j)) := by
  rw [cEq_p]
  show (if true = true then some (PyData.eqv (.int i) (.int j)) else _) = _
  rw [if_pos rfl]
  simp only [PyData.eqv]
  congr 1
theorem cEq_str : cEq (dS a) (dS b) G = some (decide (a = b)) := by
  rw [cEq_p]
  show (if true = true then some (PyData.eqv (.str a) (.str b)) else _) = _
  rw [if_pos rfl]
  simp only [PyData.eqv]
  congr 1
theorem cLe_int : cLe (dI i) (dI j) G = some (decide (i ≤ j)) := rfl
theorem cLt_int : cLt (dI i) (dI j) G = some (decide (i < j)) := rfl
theorem cGe_int : cGe (dI i) (dI j) G = some (decide (j ≤ i)) := rfl
theorem cGt_int : cGt (dI i) (dI j) G = some (decide (j < i)) := rfl
theorem cLt_str : cLt (dS a) (dS b) G = some (decide (a.cps.toList < b.cps.toList)) := rfl
theorem cIsN_p : cIsN d (.p .none) G = some (isNo d) := rfl
theorem cNotN_p : cNotN d (.p .none) G = some (!isNo d) := rfl
theorem cin_sign {c : Nat} : cInA (dS ⟨#[c]⟩) (dS z) G = some (decide (c ∈ z.cps.toList)) := rfl
theorem cnotin_sign {c : Nat} : cNotInA (dS ⟨#[c]⟩) (dS z) G = some (!decide (c ∈ z.cps.toList)) := rfl
theorem flat_strs (ts : List Str) : (ts.map PyData.str).all flatP = true := by
  rw [List.all_eq_true]
  intro x hx
  obtain ⟨z, _, e⟩ := List.mem_map.mp hx
  subst e; rfl
theorem in_strs_aux {ts : List Str} : inP (.str z) (ts.map .str) = some (ts.contains z) := by
  unfold inP
  rw [if_pos (by rw [flat_strs]; rfl)]
  congr 1
  induction ts with
  | nil => rfl
  | cons t ts ih =>
    rw [List.map_cons, List.any_cons, List.contains_cons, ih]
    congr 1
    simp only [PyData.eqv]
    rw [Bool.eq_iff_iff, beq_iff_eq, beq_iff_eq]; exact eq_comm
theorem in_strs {ts : List Str} : cInA (dS z) (.p (.tuple (ts.map .str))) G = some (ts.contains z) := by
  show (snap 64 G (dS z)).bind (fun x => (snap 64 G (.p (.tuple (ts.map .str)))).bind fun y => (seqData y).bind fun ys => inP x ys) = _
  simp only [snap_p, Option.bind_some, seqData, in_strs_aux]
theorem notin_strs {ts : List Str} : cNotInA (dS z) (.p (.tuple (ts.map .str))) G = some (!ts.contains z) := by
  show ((snap 64 G (dS z)).bind (fun x => (snap 64 G (.p (.tuple (ts.map .str)))).bind fun y => (seqData y).bind fun ys => inP x ys)).map (!·) = _
  simp only [snap_p, Option.bind_some, seqData, in_strs_aux, Option.map_some]
theorem all_bools {l : Nat} {bs : List Bool} (h : lstAt G l = some (bs.map fun b => .p (.bool b))) : fAll [.ref l] G = .ok (.p (.bool (bs.all id))) G := by
  have : boolsOf (bs.map fun b => D.p (.bool b)) = some bs := by
    clear h
    induction bs with
    | nil => rfl
    | cons b bs ih => simp [boolsOf, ih]
  show (match (seqOf (.ref l) G).bind boolsOf with | some bs => Res.ok (D.p (.bool (bs.all id))) G | none => .stuck) = _
  simp only [seqOf, h, Option.bind_some, this]
theorem sum_ints {l : Nat} {ns : List Int} (h : lstAt G l = some (ns.map fun b => .p (.int b))) : fSum [.ref l] G = .ok (dI ns.sum) G := by
  have : intsOf (ns.map fun b => D.p (.int b)) = some ns := by
    clear h
    induction ns with
    | nil => rfl
    | cons b bs ih => simp [intsOf, ih]
  show (match (seqOf (.ref l) G).bind intsOf with | some ns => okI ns.sum G | none => .stuck) = _
  simp only [seqOf, h, Option.bind_some, this]
end
end Ev
set_option Elab.async false
set_option linter.all false
set_option maxRecDepth 100000
/-! Wp3: the tactic that walks a meaning; calls that answer one datum. -/
namespace Ev
open PySem PySem.Spec PyProof.Rows
theorem wp_is {r : Res D} {G : GH} {y : PyData} (h : wp r (fun d G' => G' = G ∧ ∃ x, d = .p x ∧ x = y) NoX) : r = .ok (.p y) G := by
  obtain ⟨d, G', e, rfl, x, rfl, rfl⟩ := wp_some h
  exact e
/-- a def that answers one datum, whatever the heap -/
theorem loc_is {r : Fn} {ds : List D} {G : GH} {y : PyData} (C : GH → Prop) (w : Wf G) (cG : C G) (c0 : ∀ ps, pures ds = some ps → C []) (H : ∀ G, Wf G → C G → wp (r ds G) (fun d G' => Grow G G' ∧ d = .p y) NoX) : loc r ds G = .ok (.p y) G :=
  wp_is (loc_dat C (R := fun x => x = y) w cG c0 fun G w c => wp_mono (H G w c) fun d G' h => ⟨h.1, y, h.2, rfl⟩)
theorem loc_is0 {r : Fn} {ds : List D} {G : GH} {y : PyData} (w : Wf G) (H : ∀ G, Wf G → wp (r ds G) (fun d G' => Grow G G' ∧ d = .p y) NoX) : loc r ds G = .ok (.p y) G :=
  loc_is (fun _ => True) w trivial (fun _ _ => trivial) fun G w _ => H G w
theorem wp_ret {r : Res D} {d : D} {G : GH} {P : D → GH → Prop} {X : XP} (e : r = .ok d G) (h : P d G) : wp r P X := by rw [e]; exact h
theorem match_some {α β : Type} {a : α} {f : α → β} {g : β} : (match some a with | some x => f x | none => g) = f a := rfl
/-- a comprehension over known items, whose tests and values are data and leave the heap to grow -/
theorem lc_data {src : Src} {g : MG} {tt : DT} {te : DE} {ρ : Rho} {G : GH} {P : List D → GH → Prop} {X : XP} (xs : List D) (c : D → Bool) (f : D → D) (w : Wf G) (hn : src.n = xs.length)
    (hat : ∀ G', Grow G G' → (∀ k, k < xs.length → src.at_ G' k = xs[k]?) ∧ src.fin G' = true)
    (step : ∀ d ∈ xs, ∀ G', Grow G G' → ∃ ρ2, g d ρ G' = some (ρ2, G') ∧ wp (tt ρ2 G') (fun b G2 => b = c d ∧ Grow G' G2 ∧ (c d = true → wp (te ρ2 G2) (fun y G3 => y = f d ∧ Grow G2 G3) NoX)) NoX)
    (k : ∀ G', Grow G G' → P ((xs.filter c).map f) G') : wp (lcLoop src g tt te ρ src.n 0 [] G) P X := by
  refine lc_inv (fun k acc G' => Grow G G' ∧ acc = ((xs.take k).filter c).map f) ?_ ?_ src.n 0 [] G (by omega) ⟨Grow.refl w, by simp⟩
  · rintro j acc G' hj ⟨gr, rfl⟩
    have hj' : j < xs.length := by omega
    obtain ⟨ρ2, h1, h2⟩ := step xs[j] (List.getElem_mem hj') G' gr
    refine ⟨xs[j], ρ2, by rw [(hat G' gr).1 j hj', List.getElem?_eq_getElem hj'], h1, wp_mono h2 fun b G2 h => ?_⟩
    obtain ⟨e, g2, h3⟩ := h
    have tk : xs.take (j + 1) = xs.take j ++ [xs[j]] := (List.take_append_getElem hj').symm
    cases hc : c xs[j] with
    | true =>
      rw [e, hc, if_pos rfl]
      refine wp_mono (h3 hc) fun y G3 h4 => ⟨(gr.trans g2).trans h4.2, ?_⟩
      rw [h4.1, tk, List.filter_append, List.map_append]
      simp [hc]
    | false =>
      rw [e, hc, if_neg Bool.false_ne_true]
      refine ⟨gr.trans g2, ?_⟩
      rw [tk, List.filter_append, List.map_append]
      simp [hc]
  · rintro acc G' ⟨gr, rfl⟩
    refine ⟨(hat G' gr).2, ?_⟩
    rw [hn, List.take_of_length_le (Nat.le_refl _)]
    exact k G' gr
/-- .. without a test -/
theorem lc_map {src : Src} {g : MG} {te : DE} {ρ : Rho} {G : GH} {P : List D → GH → Prop} {X : XP} (xs : List D) (f : D → D) (w : Wf G) (hn : src.n = xs.length)
    (hat : ∀ G', Grow G G' → (∀ k, k < xs.length → src.at_ G' k = xs[k]?) ∧ src.fin G' = true)
    (step : ∀ d ∈ xs, ∀ G', Grow G G' → ∃ ρ2, g d ρ G' = some (ρ2, G') ∧ wp (te ρ2 G') (fun y G3 => y = f d ∧ Grow G' G3) NoX)
    (k : ∀ G', Grow G G' → P (xs.map f) G') : wp (lcLoop src g tTrue te ρ src.n 0 [] G) P X := by
  refine lc_data xs (fun _ => true) f w hn hat (fun d hd G' gr => ?_) fun G' gr => ?_
  · obtain ⟨ρ2, h1, h2⟩ := step d hd G' gr
    exact ⟨ρ2, h1, rfl, Grow.refl gr.wf, fun _ => h2⟩
  · have : xs.filter (fun _ => true) = xs := List.filter_eq_self.mpr fun _ _ => rfl
    rw [this]; exact k G' gr
theorem hat_v {xs : List D} {G : GH} : ∀ G', Grow G G' → (∀ k, k < xs.length → (srcV xs).at_ G' k = xs[k]?) ∧ (srcV xs).fin G' = true := fun _ _ => ⟨fun _ _ => rfl, rfl⟩
theorem hat_l {xs : List D} {G : GH} {l : Nat} (h : lstAt G l = some xs) : ∀ G', Grow G G' → (∀ k, k < xs.length → (srcL l xs.length).at_ G' k = xs[k]?) ∧ (srcL l xs.length).fin G' = true := fun G' gr => by
  have h' := gr.lst h
  constructor
  · intro k _
    show (match lstAt G' l with | some ds => if ds.length = xs.length then ds[k]? else none | none => none) = _
    rw [h']; simp
  · show (match lstAt G' l with | some ds => decide (ds.length = xs.length) | none => false) = true
    rw [h']; simp
theorem hat_s {z : Str} {G : GH} : ∀ G', Grow G G' → (∀ k, k < (z.cps.toList.map fun c => dS ⟨#[c]⟩).length → (srcS z).at_ G' k = (z.cps.toList.map fun c => dS ⟨#[c]⟩)[k]?) ∧ (srcS z).fin G' = true := fun _ _ => by
  refine ⟨fun k _ => ?_, rfl⟩
  show (z.cps[k]?).map (fun c => D.p (.str ⟨#[c]⟩)) = _
  rw [List.getElem?_map, Array.getElem?_toList]
theorem hat_et {xs : List D} {G : GH} : ∀ G', Grow G G' → (∀ k, k < ((xs.zipIdx).map fun p => mkTup [dI p.2, p.1]).length → (srcET xs).at_ G' k = ((xs.zipIdx).map fun p => mkTup [dI p.2, p.1])[k]?) ∧ (srcET xs).fin G' = true := fun _ _ => by
  refine ⟨fun k _ => ?_, rfl⟩
  show (xs[k]?).map (fun d => mkTup [.p (.int k), d]) = _
  rw [List.getElem?_map, List.getElem?_zipIdx]
  cases xs[k]? <;> simp
theorem fin_at {G : GH} {xs : List D} : lstAt (G ++ [.lst xs]) G.length = some xs := lst_at (by simp)
end Ev
set_option Elab.async false
set_option linter.all false
set_option maxRecDepth 100000
/-! Wp4: things of a depth, read whole; dicts of texts. -/
namespace Ev
open PySem PySem.Spec PyProof.Rows
/-- a thing at most n deep, lists in it too -/
def Tk : Nat → GH → D → Prop
  | n, _, .p y => plainP y = true ∧ y.canLay0 = true ∧ y.depth ≤ n
  | n + 1, G, .ref i => ∃ ds, lstAt G i = some ds ∧ ∀ d ∈ ds, Tk n G d
  | n + 1, G, .mt ds => ds.length ≤ sizeLine ∧ ∀ d ∈ ds, Tk n G d
  | _, _, _ => False
theorem Tk.th : ∀ {n : Nat} {G : GH} {d : D}, Tk n G d → Th G d
  | 0, _, .p y, h => .p h.1
  | n + 1, _, .p y, h => .p h.1
  | n + 1, _, .ref i, ⟨ds, h, _⟩ => .ref h
  | n + 1, _, .mt ds, ⟨hl, h⟩ => .mt hl fun d hd => (h d hd).th
theorem Tk.imp {G G' : GH} (h : ∀ i ds, lstAt G i = some ds → lstAt G' i = some ds) : ∀ {n : Nat} {d : D}, Tk n G d → Tk n G' d
  | 0, .p y, q => q
  | n + 1, .p y, q => q
  | n + 1, .ref i, ⟨ds, q, k⟩ => ⟨ds, h _ _ q, fun d hd => (k d hd).imp h⟩
  | n + 1, .mt ds, ⟨hl, k⟩ => ⟨hl, fun d hd => (k d hd).imp h⟩
theorem Tk.grow {G G' : GH} {n : Nat} {d : D} (a : Grow G G') (t : Tk n G d) : Tk n G' d := t.imp fun _ _ => a.lst
theorem Tk.p {n : Nat} {G : GH} {y : PyData} (h : plainP y = true) (h2 : y.canLay0 = true) (h3 : y.depth ≤ n) : Tk n G (.p y) := by cases n <;> exact ⟨h, h2, h3⟩
theorem tk_p {n : Nat} {G : GH} {y : PyData} (h : Tk n G (.p y)) : plainP y = true ∧ y.canLay0 = true ∧ y.depth ≤ n := by cases n <;> exact h
theorem Tk.up : ∀ {n m : Nat} {G : GH} {d : D}, n ≤ m → Tk n G d → Tk m G d
  | n, m, G, .p y, h, q => by
    obtain ⟨a, b, c⟩ := tk_p q
    exact .p a b (by omega)
  | n + 1, m + 1, G, .ref i, h, ⟨ds, q, k⟩ => ⟨ds, q, fun d hd => (k d hd).up (by omega)⟩
  | n + 1, m + 1, G, .mt ds, h, ⟨hl, k⟩ => ⟨hl, fun d hd => (k d hd).up (by omega)⟩
  | n + 1, 0, G, .ref i, h, _ => by omega
  | n + 1, 0, G, .mt ds, h, _ => by omega
  | n, _, _, .fn _, _, q => by cases n <;> exact q.elim
  | n, _, _, .ty _, _, q => by cases n <;> exact q.elim
  | n, _, _, .kl _, _, q => by cases n <;> exact q.elim
theorem depthAll_iff {n : Nat} : ∀ {ys : List PyData}, PyData.depthAll ys ≤ n ↔ ∀ y ∈ ys, y.depth ≤ n
  | [] => by simp [PyData.depthAll]
  | y :: ys => by simp only [PyData.depthAll, Nat.max_le, List.mem_cons, forall_eq_or_imp, depthAll_iff]
theorem canLayAll_iff : ∀ {ys : List PyData}, PyData.canLayAll0 ys = true ↔ ∀ y ∈ ys, y.canLay0 = true
  | [] => by simp [PyData.canLayAll0]
  | y :: ys => by simp only [PyData.canLayAll0, Bool.and_eq_true, List.mem_cons, forall_eq_or_imp, canLayAll_iff]
theorem Tk.items {n : Nat} {G : GH} {d : D} {ds : List D} (t : Tk n G d) (h : itemsOf d = some ds) : 1 ≤ n ∧ ∀ x ∈ ds, Tk (n - 1) G x := by
  cases d with
  | p y =>
    obtain ⟨a, b, c⟩ := tk_p t
    cases y with
    | tuple ys =>
      cases h
      simp only [plainP, PyData.canLay0, PyData.depth, Bool.and_eq_true] at a b c
      replace a := a.2
      refine ⟨by omega, fun x hx => ?_⟩
      obtain ⟨y, hy, rfl⟩ := List.mem_map.mp hx
      exact .p (plainsP_iff.mp a y hy) (canLayAll_iff.mp b y hy) (by have := depthAll_iff.mp (show PyData.depthAll ys ≤ n - 1 by omega) y hy; omega)
    | _ => cases h
  | mt ys =>
    cases h
    cases n with
    | zero => exact t.elim
    | succ n => exact ⟨by omega, t.2⟩
  | _ => cases h
theorem allO_of {f : D → Option PyData} : ∀ {ds : List D}, (∀ d ∈ ds, ∃ y, f d = some y) → ∃ ys, allO (ds.map f) = some ys ∧ ys.length = ds.length ∧ ∀ y ∈ ys, ∃ d ∈ ds, f d = some y
  | [], _ => ⟨[], rfl, rfl, by simp⟩
  | d :: ds, h => by
    obtain ⟨y, hy⟩ := h d (by simp)
    obtain ⟨ys, h1, h2, h3⟩ := allO_of (ds := ds) fun x hx => h x (by simp [hx])
    refine ⟨y :: ys, by simp [allO, hy, h1], by simp [h2], fun z hz => ?_⟩
    rcases List.mem_cons.mp hz with e | e
    · subst e; exact ⟨d, by simp, hy⟩
    · obtain ⟨x, hx, e⟩ := h3 z e
      exact ⟨x, by simp [hx], e⟩
theorem tk_snap : ∀ {n m : Nat} {G : GH} {d : D}, Tk n G d → n ≤ m → ∃ y, snap m G d = some y ∧ y.canLay0 = true ∧ y.depth ≤ n
  | n, m, G, .p y, t, _ => by
    obtain ⟨a, b, c⟩ := tk_p t
    exact ⟨y, by simp, b, c⟩
  | n + 1, m + 1, G, .ref i, ⟨ds, q, k⟩, h => by
    obtain ⟨ys, h1, h2, h3⟩ := allO_of (f := snap m G) (ds := ds) fun d hd => (let ⟨y, e, _⟩ := tk_snap (k d hd) (by omega : n ≤ m); ⟨y, e⟩)
    have key : ∀ y ∈ ys, y.canLay0 = true ∧ y.depth ≤ n := fun y hy => by
      obtain ⟨d, hd, e⟩ := h3 y hy
      obtain ⟨y', e', a, b⟩ := tk_snap (k d hd) (by omega : n ≤ m)
      rw [e] at e'; cases e'
      exact ⟨a, b⟩
    refine ⟨.list ys, by simp [snap, q, h1], ?_, ?_⟩
    · simp only [PyData.canLay0]; exact canLayAll_iff.mpr fun y hy => (key y hy).1
    · simp only [PyData.depth]; have := depthAll_iff.mpr fun y hy => (key y hy).2; omega
  | n + 1, m + 1, G, .mt ds, ⟨hl, k⟩, h => by
    obtain ⟨ys, h1, h2, h3⟩ := allO_of (f := snap m G) (ds := ds) fun d hd => (let ⟨y, e, _⟩ := tk_snap (k d hd) (by omega : n ≤ m); ⟨y, e⟩)
    have key : ∀ y ∈ ys, y.canLay0 = true ∧ y.depth ≤ n := fun y hy => by
      obtain ⟨d, hd, e⟩ := h3 y hy
      obtain ⟨y', e', a, b⟩ := tk_snap (k d hd) (by omega : n ≤ m)
      rw [e] at e'; cases e'
      exact ⟨a, b⟩
    refine ⟨.tuple ys, by simp [snap, h1], ?_, ?_⟩
    · simp only [PyData.canLay0]; exact canLayAll_iff.mpr fun y hy => (key y hy).1
    · simp only [PyData.depth]; have := depthAll_iff.mpr fun y hy => (key y hy).2; omega
  | n + 1, 0, G, .ref i, _, h => by omega
  | n + 1, 0, G, .mt ds, _, h => by omega
  | n, _, _, .fn _, q, _ => by cases n <;> exact q.elim
  | n, _, _, .ty _, q, _ => by cases n <;> exact q.elim
  | n, _, _, .kl _, q, _ => by cases n <;> exact q.elim
theorem Tk.mk {n : Nat} {G : GH} {ds : List D} (hl : ds.length ≤ sizeLine) (h : ∀ d ∈ ds, Tk n G d) : Tk (n + 1) G (mkTup ds) := by
  unfold mkTup
  cases q : pures ds with
  | none => exact ⟨hl, h⟩
  | some ps =>
    have e := pures_eq q
    subst e
    have k : ∀ y ∈ ps, plainP y = true ∧ y.canLay0 = true ∧ y.depth ≤ n := fun y hy => tk_p (h (.p y) (List.mem_map_of_mem hy))
    refine .p ?_ ?_ ?_
    · simp only [plainP, Bool.and_eq_true, decide_eq_true_eq]; refine ⟨by simpa using hl, ?_⟩; exact plainsP_iff.mpr fun y hy => (k y hy).1
    · simp only [PyData.canLay0]; exact canLayAll_iff.mpr fun y hy => (k y hy).2.1
    · simp only [PyData.depth]; have := depthAll_iff.mpr fun y hy => (k y hy).2.2; omega
theorem eqP_shaped {x y : PyData} (hx : x.canLay0 = true) (hy : y.canLay0 = true) (dx : x.depth ≤ 64) (dy : y.depth ≤ 64) : eqP x y = some (PyData.eqv x y) := by
  unfold eqP
  split
  · rfl
  · have s1 : SeqAt.shaped x = true := by unfold SeqAt.shaped; simp [hx, dx]
    have s2 : SeqAt.shaped y = true := by unfold SeqAt.shaped; simp [hy, dy]
    rw [if_pos ⟨s1, s2⟩]
/-- a list beside the empty list -/
theorem cNe_nil {n l m : Nat} {G : GH} {ds : List D} (h : lstAt G l = some ds) (hm : lstAt G m = some []) (k : ∀ d ∈ ds, Tk n G d) (hn : n < 64) : cNe (.ref l) (.ref m) G = some (!ds.isEmpty) := by
  have t : Tk (n + 1) G (.ref l) := ⟨ds, h, k⟩
  obtain ⟨ys, h1, h2, h3⟩ := allO_of (f := snap 63 G) (ds := ds) fun d hd => (let ⟨y, e, _⟩ := tk_snap (k d hd) (by omega : n ≤ 63); ⟨y, e⟩)
  obtain ⟨y, e, a, b⟩ := tk_snap t (by omega : n + 1 ≤ 64)
  have s : snap 64 G (.ref l) = some (.list ys) := by simp [snap, h, h1]
  rw [s] at e; cases e
  have s2 : snap 64 G (.ref m) = some (.list []) := by simp [snap, hm, allO]
  unfold cNe cEq
  rw [s, s2]
  simp only
  rw [eqP_shaped a rfl (by omega) (by decide)]
  cases ds with
  | nil =>
    have : ys = [] := List.length_eq_zero_iff.mp h2
    subst this
    simp [PyData.eqv, PyData.eqvAll]
  | cons d ds =>
    cases ys with
    | nil => simp at h2
    | cons y ys => simp [PyData.eqv, PyData.eqvAll]
theorem cEq_nil {n l m : Nat} {G : GH} {ds : List D} (h : lstAt G l = some ds) (hm : lstAt G m = some []) (k : ∀ d ∈ ds, Tk n G d) (hn : n < 64) : cEq (.ref l) (.ref m) G = some ds.isEmpty := by
  have := cNe_nil h hm k hn
  unfold cNe at this
  cases q : cEq (.ref l) (.ref m) G with
  | none => rw [q] at this; cases this
  | some b => rw [q] at this; simpa using this
/-! dicts whose keys are texts -/
theorem keyFit_str {kvs : List (Str × PyData)} {z : Str} : keyFit (kvs.map fun p => (PyData.str p.1, D.p p.2)) (.str z) = true := by
  unfold keyFit
  simp [scK]
theorem nk_str {a b : Str} : decide (nk (.str a) = nk (.str b)) = (a == b) := by
  rw [Bool.eq_iff_iff]
  simp [nk]
theorem getK_str {z : Str} : ∀ {kvs : List (Str × PyData)}, getK (kvs.map fun p => (PyData.str p.1, D.p p.2)) (.str z) = ((kvs.find? fun p => p.1 == z).map fun p => D.p p.2)
  | [] => rfl
  | p :: kvs => by
    have ih := getK_str (z := z) (kvs := kvs)
    unfold getK at ih ⊢
    rw [List.map_cons, List.find?_cons, List.find?_cons]
    simp only [nk_str]
    cases p.1 == z with
    | true => rfl
    | false => exact ih
theorem putD_new {kvs : List (Str × PyData)} {z : Str} {x : PyData} (h : z ∉ kvs.map (·.1)) : putD (kvs.map fun p => (PyData.str p.1, D.p p.2)) (.str z) (.p x) = (kvs ++ [(z, x)]).map fun p => (PyData.str p.1, D.p p.2) := by
  unfold putD
  rw [getK_str]
  have : kvs.find? (fun p => p.1 == z) = none := by
    rw [List.find?_eq_none]
    intro p hp e
    exact h (List.mem_map.mpr ⟨p, hp, by simpa using e⟩)
  rw [this]
  simp
end Ev
set_option Elab.async false
set_option linter.all false
set_option maxRecDepth 100000
/-! Wp5: how long a datum's text is; a datum beside itself. -/
namespace Ev
open PySem PySem.Spec PyProof.Rows
theorem str_len_app (a b : Str) : (a ++ b).length = a.length + b.length := by
  show (a.cps ++ b.cps).size = _
  exact Array.size_append
theorem tuple_len (ts : List Str) : (tupleText ts).length ≤ (ts.map fun t => t.length + 2).sum + 3 := by
  unfold tupleText
  rw [str_len_app, str_len_app]
  have h1 : ((if ts.length == 1 then (",)" : String) else ")" : String) : Str).length ≤ 2 := by
    cases ts.length == 1 <;> decide
  have h2 : (Str.join ", " ts).length ≤ (ts.map fun t => t.length + 2).sum := by
    induction ts with
    | nil => exact Nat.le_of_eq rfl
    | cons t ts ih =>
      cases ts with
      | nil => show t.length ≤ _; simp
      | cons u r =>
        show (t ++ ", " ++ Str.join ", " (u :: r)).length ≤ _
        rw [str_len_app, str_len_app, List.map_cons, List.sum_cons]
        have e : (", " : Str).length = 2 := by decide
        have ih' : (Str.join ", " (u :: r)).length ≤ ((u :: r).map fun t => t.length + 2).sum := by
          have h1' : ((if (u :: r).length == 1 then (",)" : String) else ")" : String) : Str).length ≤ 2 := by
            cases (u :: r).length == 1 <;> decide
          exact ih h1'
        omega
  have e : ("(" : Str).length = 1 := by decide
  omega
theorem shownAll_map : ∀ ys : List PyData, PyData.shownAll ys = ys.map PyData.shown
  | [] => rfl
  | y :: ys => by simp only [PyData.shownAll, List.map_cons, shownAll_map ys]
theorem sum_le {α : Type} {f : α → Nat} {B : Nat} : ∀ {l : List α}, (∀ x ∈ l, f x ≤ B) → (l.map f).sum ≤ l.length * B
  | [], _ => by simp
  | x :: l, h => by
    rw [List.map_cons, List.sum_cons, List.length_cons, Nat.succ_mul]
    have h1 := h x (by simp)
    have h2 := sum_le (l := l) fun y hy => h y (by simp [hy])
    omega
theorem shown_tuple {ys : List PyData} {B : Nat} (h : ∀ y ∈ ys, y.shown.length ≤ B) : (PyData.tuple ys).shown.length ≤ ys.length * (B + 2) + 3 := by
  simp only [PyData.shown]
  refine Nat.le_trans (tuple_len _) ?_
  rw [shownAll_map, List.map_map]
  have := sum_le (l := ys) (f := (fun t => Str.length t + 2) ∘ PyData.shown) (B := B + 2) fun y hy => by have := h y hy; simp only [Function.comp]; omega
  omega
theorem shown_str {z : Str} (h : PyData.strOk z = true) : (PyData.str z).shown.length ≤ 10 * z.length + 2 := by
  simp only [PyData.shown]
  refine StrLaws.reprText_len z fun c hc => ?_
  have h3 := Array.all_eq_true_iff_forall_mem.mp h c (Array.mem_toList_iff.mp hc)
  have h4 : c < 0x110000 := by simpa using h3
  have e : (16 : Nat) ^ 8 = 4294967296 := by decide
  omega
theorem showableAll_iff : ∀ {ys : List PyData}, PyData.showableAll ys = true ↔ ∀ y ∈ ys, y.showable = true
  | [] => by simp [PyData.showableAll]
  | y :: ys => by simp only [PyData.showableAll, Bool.and_eq_true, List.mem_cons, forall_eq_or_imp, showableAll_iff]
mutual
theorem eqv_refl : ∀ {y : PyData}, y.canLay0 = true → PyData.eqv y y = true
  | .none, _ => by simp [PyData.eqv]
  | .bool _, _ => by simp [PyData.eqv]
  | .int _, _ => by simp [PyData.eqv]
  | .str _, _ => by simp [PyData.eqv]
  | .list ys, h => by simp only [PyData.eqv]; exact eqvAll_refl (by simpa [PyData.canLay0] using h)
  | .tuple ys, h => by simp only [PyData.eqv]; exact eqvAll_refl (by simpa [PyData.canLay0] using h)
  | .dict _, h => by simp [PyData.canLay0] at h
theorem eqvAll_refl : ∀ {ys : List PyData}, PyData.canLayAll0 ys = true → PyData.eqvAll ys ys = true
  | [], _ => by simp [PyData.eqvAll]
  | y :: ys, h => by
    simp only [PyData.canLayAll0, Bool.and_eq_true] at h
    simp only [PyData.eqvAll, Bool.and_eq_true]
    exact ⟨eqv_refl h.1, eqvAll_refl h.2⟩
end
/-- a datum that can be shown -/
structure Shw (G : GH) (e : D) (y : PyData) : Prop where
  snap : snap 64 G e = some y
  seq : (seqData y).isSome = true
  show_ : y.showable = true
  lay : y.canLay0 = true
  deep : y.depth ≤ 64
  fits : y.shown.length ≤ sizeLine
theorem repr_ok {G : GH} {e : D} {y : PyData} (s : Shw G e y) : fRepr [e] G = .ok (.p (.str y.shown)) G := by
  show (match Ev.snap 64 G e with | some y => (match seqData y with | some _ => if PyData.showable y = true ∧ PyData.hasDict y = false ∧ y.depth ≤ 64 ∧ y.shown.length ≤ sizeLine then Res.ok (D.p (.str y.shown)) G else .stuck | none => .stuck) | none => .stuck) = _
  rw [s.snap]
  simp only
  obtain ⟨z, hz⟩ := Option.isSome_iff_exists.mp s.seq
  rw [hz]
  simp only
  rw [if_pos ⟨s.show_, PyData.hasDict_of_canLay y s.lay, s.deep, s.fits⟩]
theorem eq_self_ok {G : GH} {e : D} {y : PyData} (s : Shw G e y) : cEq e e G = some true := by
  unfold cEq
  rw [s.snap]
  simp only
  rw [eqP_shaped s.lay s.lay s.deep s.deep, eqv_refl s.lay]
theorem Shw.grow {G G' : GH} {e : D} {y : PyData} (g : Grow G G') (s : Shw G e y) (h : Ev.snap 64 G' e = some y) : Shw G' e y := ⟨h, s.2, s.3, s.4, s.5, s.6⟩
theorem snap_items {m : Nat} {G : GH} {d : D} {xs : List D} {ys : List PyData} (h : itemsOf d = some xs) (a : allO (xs.map (Ev.snap m G)) = some ys) : Ev.snap (m + 1) G d = some (.tuple ys) := by
  cases d with
  | p y => cases y with
    | tuple zs =>
      cases h
      rw [allO_pures] at a
      cases a
      simp
    | _ => cases h
  | mt zs => cases h; simp [Ev.snap, a]
  | _ => cases h
theorem allO_map {α : Type} {f : D → Option PyData} {g : α → D} {h : α → PyData} : ∀ {l : List α}, (∀ x ∈ l, f (g x) = some (h x)) → allO ((l.map g).map f) = some (l.map h)
  | [], _ => rfl
  | x :: l, k => by
    rw [List.map_cons, List.map_cons, k x (by simp), List.map_cons]
    simp only [allO, allO_map (l := l) fun y hy => k y (by simp [hy]), Option.map_some]
end Ev
set_option Elab.async false
set_option linter.all false
set_option maxRecDepth 100000
/-! Wp6: pure tuples, slices, pairs. -/
namespace Ev
open PySem PySem.Spec PyProof.Rows
section
variable {G : GH} {a b c e y : PyData} {r ys : List PyData} {d : D} {xs zs : List D} {X : XP} {ρ : Rho}
theorem ixt {k : Nat} {d : D} {xs : List D} {x : D} (h : itemsOf d = some xs) (ha : xs[k]? = some x) : oIxA d (dI k) G = .ok x G := by
  refine ix_items h ?_
  unfold L2.atI L2.ixN
  have : k < xs.length := (List.getElem?_eq_some_iff.mp ha).1
  rw [if_pos (by omega), if_pos (by omega)]
  exact ha
theorem ix0 : oIxA (.p (.tuple (a :: r))) (.p (.int 0)) G = .ok (.p a) G := ixt (k := 0) (xs := .p a :: r.map .p) rfl rfl
theorem ix1 : oIxA (.p (.tuple (a :: b :: r))) (.p (.int 1)) G = .ok (.p b) G := ixt (k := 1) (xs := .p a :: .p b :: r.map .p) rfl rfl
theorem ix2 : oIxA (.p (.tuple (a :: b :: c :: r))) (.p (.int 2)) G = .ok (.p c) G := ixt (k := 2) (xs := .p a :: .p b :: .p c :: r.map .p) rfl rfl
theorem ix3 : oIxA (.p (.tuple (a :: b :: c :: e :: r))) (.p (.int 3)) G = .ok (.p e) G := ixt (k := 3) (xs := .p a :: .p b :: .p c :: .p e :: r.map .p) rfl rfl
theorem len_p : fLen [.p (.tuple ys)] G = .ok (.p (.int ys.length)) G := by
  rw [len_items (xs := ys.map .p) rfl, List.length_map]
theorem len1 : fLen [.p (.tuple [a])] G = .ok (.p (.int 1)) G := rfl
theorem len2 : fLen [.p (.tuple [a, b])] G = .ok (.p (.int 2)) G := rfl
theorem len3 : fLen [.p (.tuple [a, b, c])] G = .ok (.p (.int 3)) G := rfl
theorem len4 : fLen [.p (.tuple [a, b, c, e])] G = .ok (.p (.int 4)) G := rfl
theorem sz0 : (0 ≤ sizeLine) = True := eq_true (by decide)
theorem sz1 : (1 ≤ sizeLine) = True := eq_true (by decide)
theorem sz2 : (2 ≤ sizeLine) = True := eq_true (by decide)
theorem sz3 : (3 ≤ sizeLine) = True := eq_true (by decide)
theorem sz4 : (4 ≤ sizeLine) = True := eq_true (by decide)
theorem dec1 : decide ((1 : Int) = 1) = true := rfl
theorem dec2 : decide ((2 : Int) = 2) = true := rfl
theorem dec3 : decide ((3 : Int) = 3) = true := rfl
theorem dec4 : decide ((4 : Int) = 4) = true := rfl
theorem isi_tupP : fIsi [.p (.tuple ys), .ty "tuple"] G = .ok (.p (.bool true)) G := rfl
theorem isi_strP {z : Str} : fIsi [.p (.str z), .ty "str"] G = .ok (.p (.bool true)) G := rfl
theorem isi_intP {i : Int} : fIsi [.p (.int i), .ty "int"] G = .ok (.p (.bool true)) G := rfl
theorem isi_boolP {i : Int} : fIsi [.p (.int i), .ty "bool"] G = .ok (.p (.bool false)) G := rfl
theorem min_int {i j : Int} : fMin [dI i, dI j] G = .ok (dI (if j < i then j else i)) G := rfl
theorem cNe_empty (h : (PyData.tuple (a :: r)).canLay0 = true) (h2 : (PyData.tuple (a :: r)).depth ≤ 64) : cNe (.p (.tuple (a :: r))) (mkTup []) G = some true := by
  show cNe (.p (.tuple (a :: r))) (.p (.tuple [])) G = _
  rw [cNe_p, eqP_shaped h rfl h2 (by decide)]
  simp [PyData.eqv, PyData.eqvAll]
theorem cut_tail {α : Type} (xs : List α) (k : Nat) : Ev.cutD xs (some k) none = xs.drop k := by
  unfold Ev.cutD
  rw [HT.sIx_none, HT.sIx_nat, List.take_of_length_le (by rw [List.length_drop]; exact Nat.le_refl _)]
  by_cases h : k ≤ xs.length
  · rw [Nat.min_eq_left h]
  · rw [Nat.min_eq_right (by omega), List.drop_of_length_le (Nat.le_refl _), List.drop_of_length_le (by omega)]
theorem cut_head {α : Type} (xs : List α) (k : Nat) : Ev.cutD xs none (some k) = xs.take k := by
  unfold Ev.cutD
  rw [HT.sIx_none, HT.sIx_nat, List.drop_zero, Nat.sub_zero]
  by_cases h : k ≤ xs.length
  · rw [Nat.min_eq_left h]
  · rw [Nat.min_eq_right (by omega), List.take_of_length_le (Nat.le_refl _), List.take_of_length_le (by omega)]
theorem sl_items {lo hi : Option Int} (h : itemsOf d = some xs) : slD d lo hi G = .ok (mkTup (Ev.cutD xs lo hi)) G := by
  cases d with
  | p y => cases y with
    | tuple ys => cases h; rfl
    | _ => cases h
  | mt ys => cases h; rfl
  | _ => cases h
theorem sl_tail : slD (.p (.tuple (a :: r))) (some 1) none G = .ok (.p (.tuple r)) G := by
  rw [sl_items (xs := .p a :: r.map .p) rfl]
  rw [show (some (1 : Int)) = some ((1 : Nat) : Int) from rfl, cut_tail]
  rw [List.drop_succ_cons, List.drop_zero, mkTup_map]
theorem list_items (h : itemsOf d = some xs) : fList [d] G = .ok (.ref G.length) (G ++ [.lst xs]) := by
  cases d with
  | p y => cases y with
    | tuple ys => cases h; rfl
    | _ => cases h
  | mt ys => cases h; rfl
  | _ => cases h
theorem list_p : fList [.p (.tuple ys)] G = .ok (.ref G.length) (G ++ [.lst (ys.map .p)]) := rfl
theorem tuple_lst {l : Nat} (h : lstAt G l = some xs) : fTuple [.ref l] G = .ok (mkTup xs) G := by
  show (match seqOf (.ref l) G with | some xs => Res.ok (mkTup xs) G | none => _) = _
  simp only [seqOf, h]
theorem wp_iZp {x z : DE} {P : Src → GH → Prop} : wp (iZp (aCons x (aCons z aNil)) ρ G) P X = wp (x ρ G) (fun d G => wp (z ρ G) (fun e G => match zipSrc d e G with | some s => P s G | none => False) X) X := by
  simp only [iZp, aCons, aNil, wp_bind, wp_ok]
  congr 1
  funext d G
  congr 1
  funext e G
  cases zipSrc d e G <;> rfl
theorem zip_items {d e : D} {xs zs : List D} (h : itemsOf d = some xs) (h2 : itemsOf e = some zs) : zipSrc d e G = some (srcZT xs zs) := by
  have key : (match itemsOf d, itemsOf e with | some ds, some es => some (srcZT ds es) | _, _ => none) = some (srcZT xs zs) := by simp only [h, h2]
  cases d with
  | p y => cases y with
    | tuple _ => cases e with
      | p w => cases w with
        | tuple _ => exact key
        | _ => cases h2
      | mt _ => exact key
      | _ => cases h2
    | _ => cases h
  | mt _ => cases e with
      | p w => cases w with
        | tuple _ => exact key
        | _ => cases h2
      | mt _ => exact key
      | _ => cases h2
  | _ => cases h
theorem hat_zt : ∀ G', Grow G G' → (∀ k, k < ((xs.zip zs).map fun p => mkTup [p.1, p.2]).length → (srcZT xs zs).at_ G' k = ((xs.zip zs).map fun p => mkTup [p.1, p.2])[k]?) ∧ (srcZT xs zs).fin G' = true := fun _ _ => by
  refine ⟨fun k _ => ?_, rfl⟩
  show (match xs[k]?, zs[k]? with | some d, some e => some (mkTup [d, e]) | _, _ => none) = _
  rw [List.getElem?_map]
  simp only [List.zip, List.getElem?_zipWith]
  cases xs[k]? <;> cases zs[k]? <;> rfl
end
end Ev
set_option Elab.async false
set_option linter.all false
namespace Ev
open PySem
theorem ct_0_nil_ : (["nil", "any"] : List Str).contains ("nil" : Str) = true := by decide +kernel
theorem ct_0_any_ : (["nil", "any"] : List Str).contains ("any" : Str) = true := by decide +kernel
theorem ct_0_kind_ : (["nil", "any"] : List Str).contains ("kind" : Str) = false := by decide +kernel
theorem ct_0_seen_ : (["nil", "any"] : List Str).contains ("seen" : Str) = false := by decide +kernel
theorem ct_0_last_ : (["nil", "any"] : List Str).contains ("last" : Str) = false := by decide +kernel
theorem ct_0_ahead_ : (["nil", "any"] : List Str).contains ("ahead" : Str) = false := by decide +kernel
theorem ct_0_not_ : (["nil", "any"] : List Str).contains ("not" : Str) = false := by decide +kernel
theorem ct_0_loop_ : (["nil", "any"] : List Str).contains ("loop" : Str) = false := by decide +kernel
theorem ct_0_then_ : (["nil", "any"] : List Str).contains ("then" : Str) = false := by decide +kernel
theorem ct_0_or_ : (["nil", "any"] : List Str).contains ("or" : Str) = false := by decide +kernel
theorem ct_0_and_ : (["nil", "any"] : List Str).contains ("and" : Str) = false := by decide +kernel
theorem ct_0_true_ : (["nil", "any"] : List Str).contains ("true" : Str) = false := by decide +kernel
theorem ct_0_says_ : (["nil", "any"] : List Str).contains ("says" : Str) = false := by decide +kernel
theorem ct_0_count_ : (["nil", "any"] : List Str).contains ("count" : Str) = false := by decide +kernel
theorem ct_1_nil_ : (["kind", "seen", "last"] : List Str).contains ("nil" : Str) = false := by decide +kernel
theorem ct_1_any_ : (["kind", "seen", "last"] : List Str).contains ("any" : Str) = false := by decide +kernel
theorem ct_1_kind_ : (["kind", "seen", "last"] : List Str).contains ("kind" : Str) = true := by decide +kernel
theorem ct_1_seen_ : (["kind", "seen", "last"] : List Str).contains ("seen" : Str) = true := by decide +kernel
theorem ct_1_last_ : (["kind", "seen", "last"] : List Str).contains ("last" : Str) = true := by decide +kernel
theorem ct_1_ahead_ : (["kind", "seen", "last"] : List Str).contains ("ahead" : Str) = false := by decide +kernel
theorem ct_1_not_ : (["kind", "seen", "last"] : List Str).contains ("not" : Str) = false := by decide +kernel
theorem ct_1_loop_ : (["kind", "seen", "last"] : List Str).contains ("loop" : Str) = false := by decide +kernel
theorem ct_1_then_ : (["kind", "seen", "last"] : List Str).contains ("then" : Str) = false := by decide +kernel
theorem ct_1_or_ : (["kind", "seen", "last"] : List Str).contains ("or" : Str) = false := by decide +kernel
theorem ct_1_and_ : (["kind", "seen", "last"] : List Str).contains ("and" : Str) = false := by decide +kernel
theorem ct_1_true_ : (["kind", "seen", "last"] : List Str).contains ("true" : Str) = false := by decide +kernel
theorem ct_1_says_ : (["kind", "seen", "last"] : List Str).contains ("says" : Str) = false := by decide +kernel
theorem ct_1_count_ : (["kind", "seen", "last"] : List Str).contains ("count" : Str) = false := by decide +kernel
theorem ct_2_nil_ : (["ahead"] : List Str).contains ("nil" : Str) = false := by decide +kernel
theorem ct_2_any_ : (["ahead"] : List Str).contains ("any" : Str) = false := by decide +kernel
theorem ct_2_kind_ : (["ahead"] : List Str).contains ("kind" : Str) = false := by decide +kernel
theorem ct_2_seen_ : (["ahead"] : List Str).contains ("seen" : Str) = false := by decide +kernel
theorem ct_2_last_ : (["ahead"] : List Str).contains ("last" : Str) = false := by decide +kernel
theorem ct_2_ahead_ : (["ahead"] : List Str).contains ("ahead" : Str) = true := by decide +kernel
theorem ct_2_not_ : (["ahead"] : List Str).contains ("not" : Str) = false := by decide +kernel
theorem ct_2_loop_ : (["ahead"] : List Str).contains ("loop" : Str) = false := by decide +kernel
theorem ct_2_then_ : (["ahead"] : List Str).contains ("then" : Str) = false := by decide +kernel
theorem ct_2_or_ : (["ahead"] : List Str).contains ("or" : Str) = false := by decide +kernel
theorem ct_2_and_ : (["ahead"] : List Str).contains ("and" : Str) = false := by decide +kernel
theorem ct_2_true_ : (["ahead"] : List Str).contains ("true" : Str) = false := by decide +kernel
theorem ct_2_says_ : (["ahead"] : List Str).contains ("says" : Str) = false := by decide +kernel
theorem ct_2_count_ : (["ahead"] : List Str).contains ("count" : Str) = false := by decide +kernel
theorem ct_3_nil_ : (["not", "loop"] : List Str).contains ("nil" : Str) = false := by decide +kernel
theorem ct_3_any_ : (["not", "loop"] : List Str).contains ("any" : Str) = false := by decide +kernel
theorem ct_3_kind_ : (["not", "loop"] : List Str).contains ("kind" : Str) = false := by decide +kernel
theorem ct_3_seen_ : (["not", "loop"] : List Str).contains ("seen" : Str) = false := by decide +kernel
theorem ct_3_last_ : (["not", "loop"] : List Str).contains ("last" : Str) = false := by decide +kernel
theorem ct_3_ahead_ : (["not", "loop"] : List Str).contains ("ahead" : Str) = false := by decide +kernel
theorem ct_3_not_ : (["not", "loop"] : List Str).contains ("not" : Str) = true := by decide +kernel
theorem ct_3_loop_ : (["not", "loop"] : List Str).contains ("loop" : Str) = true := by decide +kernel
theorem ct_3_then_ : (["not", "loop"] : List Str).contains ("then" : Str) = false := by decide +kernel
theorem ct_3_or_ : (["not", "loop"] : List Str).contains ("or" : Str) = false := by decide +kernel
theorem ct_3_and_ : (["not", "loop"] : List Str).contains ("and" : Str) = false := by decide +kernel
theorem ct_3_true_ : (["not", "loop"] : List Str).contains ("true" : Str) = false := by decide +kernel
theorem ct_3_says_ : (["not", "loop"] : List Str).contains ("says" : Str) = false := by decide +kernel
theorem ct_3_count_ : (["not", "loop"] : List Str).contains ("count" : Str) = false := by decide +kernel
theorem ct_4_nil_ : (["then", "or", "and"] : List Str).contains ("nil" : Str) = false := by decide +kernel
theorem ct_4_any_ : (["then", "or", "and"] : List Str).contains ("any" : Str) = false := by decide +kernel
theorem ct_4_kind_ : (["then", "or", "and"] : List Str).contains ("kind" : Str) = false := by decide +kernel
theorem ct_4_seen_ : (["then", "or", "and"] : List Str).contains ("seen" : Str) = false := by decide +kernel
theorem ct_4_last_ : (["then", "or", "and"] : List Str).contains ("last" : Str) = false := by decide +kernel
theorem ct_4_ahead_ : (["then", "or", "and"] : List Str).contains ("ahead" : Str) = false := by decide +kernel
theorem ct_4_not_ : (["then", "or", "and"] : List Str).contains ("not" : Str) = false := by decide +kernel
theorem ct_4_loop_ : (["then", "or", "and"] : List Str).contains ("loop" : Str) = false := by decide +kernel
theorem ct_4_then_ : (["then", "or", "and"] : List Str).contains ("then" : Str) = true := by decide +kernel
theorem ct_4_or_ : (["then", "or", "and"] : List Str).contains ("or" : Str) = true := by decide +kernel
theorem ct_4_and_ : (["then", "or", "and"] : List Str).contains ("and" : Str) = true := by decide +kernel
theorem ct_4_true_ : (["then", "or", "and"] : List Str).contains ("true" : Str) = false := by decide +kernel
theorem ct_4_says_ : (["then", "or", "and"] : List Str).contains ("says" : Str) = false := by decide +kernel
theorem ct_4_count_ : (["then", "or", "and"] : List Str).contains ("count" : Str) = false := by decide +kernel
theorem ct_5_nil_ : (["true"] : List Str).contains ("nil" : Str) = false := by decide +kernel
theorem ct_5_any_ : (["true"] : List Str).contains ("any" : Str) = false := by decide +kernel
theorem ct_5_kind_ : (["true"] : List Str).contains ("kind" : Str) = false := by decide +kernel
theorem ct_5_seen_ : (["true"] : List Str).contains ("seen" : Str) = false := by decide +kernel
theorem ct_5_last_ : (["true"] : List Str).contains ("last" : Str) = false := by decide +kernel
theorem ct_5_ahead_ : (["true"] : List Str).contains ("ahead" : Str) = false := by decide +kernel
theorem ct_5_not_ : (["true"] : List Str).contains ("not" : Str) = false := by decide +kernel
theorem ct_5_loop_ : (["true"] : List Str).contains ("loop" : Str) = false := by decide +kernel
theorem ct_5_then_ : (["true"] : List Str).contains ("then" : Str) = false := by decide +kernel
theorem ct_5_or_ : (["true"] : List Str).contains ("or" : Str) = false := by decide +kernel
theorem ct_5_and_ : (["true"] : List Str).contains ("and" : Str) = false := by decide +kernel
theorem ct_5_true_ : (["true"] : List Str).contains ("true" : Str) = true := by decide +kernel
theorem ct_5_says_ : (["true"] : List Str).contains ("says" : Str) = false := by decide +kernel
theorem ct_5_count_ : (["true"] : List Str).contains ("count" : Str) = false := by decide +kernel
theorem ct_6_nil_ : (["says"] : List Str).contains ("nil" : Str) = false := by decide +kernel
theorem ct_6_any_ : (["says"] : List Str).contains ("any" : Str) = false := by decide +kernel
theorem ct_6_kind_ : (["says"] : List Str).contains ("kind" : Str) = false := by decide +kernel
theorem ct_6_seen_ : (["says"] : List Str).contains ("seen" : Str) = false := by decide +kernel
theorem ct_6_last_ : (["says"] : List Str).contains ("last" : Str) = false := by decide +kernel
theorem ct_6_ahead_ : (["says"] : List Str).contains ("ahead" : Str) = false := by decide +kernel
theorem ct_6_not_ : (["says"] : List Str).contains ("not" : Str) = false := by decide +kernel
theorem ct_6_loop_ : (["says"] : List Str).contains ("loop" : Str) = false := by decide +kernel
theorem ct_6_then_ : (["says"] : List Str).contains ("then" : Str) = false := by decide +kernel
theorem ct_6_or_ : (["says"] : List Str).contains ("or" : Str) = false := by decide +kernel
theorem ct_6_and_ : (["says"] : List Str).contains ("and" : Str) = false := by decide +kernel
theorem ct_6_true_ : (["says"] : List Str).contains ("true" : Str) = false := by decide +kernel
theorem ct_6_says_ : (["says"] : List Str).contains ("says" : Str) = true := by decide +kernel
theorem ct_6_count_ : (["says"] : List Str).contains ("count" : Str) = false := by decide +kernel
theorem ct_7_nil_ : (["count"] : List Str).contains ("nil" : Str) = false := by decide +kernel
theorem ct_7_any_ : (["count"] : List Str).contains ("any" : Str) = false := by decide +kernel
theorem ct_7_kind_ : (["count"] : List Str).contains ("kind" : Str) = false := by decide +kernel
theorem ct_7_seen_ : (["count"] : List Str).contains ("seen" : Str) = false := by decide +kernel
theorem ct_7_last_ : (["count"] : List Str).contains ("last" : Str) = false := by decide +kernel
theorem ct_7_ahead_ : (["count"] : List Str).contains ("ahead" : Str) = false := by decide +kernel
theorem ct_7_not_ : (["count"] : List Str).contains ("not" : Str) = false := by decide +kernel
theorem ct_7_loop_ : (["count"] : List Str).contains ("loop" : Str) = false := by decide +kernel
theorem ct_7_then_ : (["count"] : List Str).contains ("then" : Str) = false := by decide +kernel
theorem ct_7_or_ : (["count"] : List Str).contains ("or" : Str) = false := by decide +kernel
theorem ct_7_and_ : (["count"] : List Str).contains ("and" : Str) = false := by decide +kernel
theorem ct_7_true_ : (["count"] : List Str).contains ("true" : Str) = false := by decide +kernel
theorem ct_7_says_ : (["count"] : List Str).contains ("says" : Str) = false := by decide +kernel
theorem ct_7_count_ : (["count"] : List Str).contains ("count" : Str) = true := by decide +kernel
theorem ct_8_nil_ : (["not"] : List Str).contains ("nil" : Str) = false := by decide +kernel
theorem ct_8_any_ : (["not"] : List Str).contains ("any" : Str) = false := by decide +kernel
theorem ct_8_kind_ : (["not"] : List Str).contains ("kind" : Str) = false := by decide +kernel
theorem ct_8_seen_ : (["not"] : List Str).contains ("seen" : Str) = false := by decide +kernel
theorem ct_8_last_ : (["not"] : List Str).contains ("last" : Str) = false := by decide +kernel
theorem ct_8_ahead_ : (["not"] : List Str).contains ("ahead" : Str) = false := by decide +kernel
theorem ct_8_not_ : (["not"] : List Str).contains ("not" : Str) = true := by decide +kernel
theorem ct_8_loop_ : (["not"] : List Str).contains ("loop" : Str) = false := by decide +kernel
theorem ct_8_then_ : (["not"] : List Str).contains ("then" : Str) = false := by decide +kernel
theorem ct_8_or_ : (["not"] : List Str).contains ("or" : Str) = false := by decide +kernel
theorem ct_8_and_ : (["not"] : List Str).contains ("and" : Str) = false := by decide +kernel
theorem ct_8_true_ : (["not"] : List Str).contains ("true" : Str) = false := by decide +kernel
theorem ct_8_says_ : (["not"] : List Str).contains ("says" : Str) = false := by decide +kernel
theorem ct_8_count_ : (["not"] : List Str).contains ("count" : Str) = false := by decide +kernel
theorem ct_9_nil_ : (["and", "or"] : List Str).contains ("nil" : Str) = false := by decide +kernel
theorem ct_9_any_ : (["and", "or"] : List Str).contains ("any" : Str) = false := by decide +kernel
theorem ct_9_kind_ : (["and", "or"] : List Str).contains ("kind" : Str) = false := by decide +kernel
theorem ct_9_seen_ : (["and", "or"] : List Str).contains ("seen" : Str) = false := by decide +kernel
theorem ct_9_last_ : (["and", "or"] : List Str).contains ("last" : Str) = false := by decide +kernel
theorem ct_9_ahead_ : (["and", "or"] : List Str).contains ("ahead" : Str) = false := by decide +kernel
theorem ct_9_not_ : (["and", "or"] : List Str).contains ("not" : Str) = false := by decide +kernel
theorem ct_9_loop_ : (["and", "or"] : List Str).contains ("loop" : Str) = false := by decide +kernel
theorem ct_9_then_ : (["and", "or"] : List Str).contains ("then" : Str) = false := by decide +kernel
theorem ct_9_or_ : (["and", "or"] : List Str).contains ("or" : Str) = true := by decide +kernel
theorem ct_9_and_ : (["and", "or"] : List Str).contains ("and" : Str) = true := by decide +kernel
theorem ct_9_true_ : (["and", "or"] : List Str).contains ("true" : Str) = false := by decide +kernel
theorem ct_9_says_ : (["and", "or"] : List Str).contains ("says" : Str) = false := by decide +kernel
theorem ct_9_count_ : (["and", "or"] : List Str).contains ("count" : Str) = false := by decide +kernel
theorem ct_10_nil_ : (["true", "says"] : List Str).contains ("nil" : Str) = false := by decide +kernel
theorem ct_10_any_ : (["true", "says"] : List Str).contains ("any" : Str) = false := by decide +kernel
theorem ct_10_kind_ : (["true", "says"] : List Str).contains ("kind" : Str) = false := by decide +kernel
theorem ct_10_seen_ : (["true", "says"] : List Str).contains ("seen" : Str) = false := by decide +kernel
theorem ct_10_last_ : (["true", "says"] : List Str).contains ("last" : Str) = false := by decide +kernel
theorem ct_10_ahead_ : (["true", "says"] : List Str).contains ("ahead" : Str) = false := by decide +kernel
theorem ct_10_not_ : (["true", "says"] : List Str).contains ("not" : Str) = false := by decide +kernel
theorem ct_10_loop_ : (["true", "says"] : List Str).contains ("loop" : Str) = false := by decide +kernel
theorem ct_10_then_ : (["true", "says"] : List Str).contains ("then" : Str) = false := by decide +kernel
theorem ct_10_or_ : (["true", "says"] : List Str).contains ("or" : Str) = false := by decide +kernel
theorem ct_10_and_ : (["true", "says"] : List Str).contains ("and" : Str) = false := by decide +kernel
theorem ct_10_true_ : (["true", "says"] : List Str).contains ("true" : Str) = true := by decide +kernel
theorem ct_10_says_ : (["true", "says"] : List Str).contains ("says" : Str) = true := by decide +kernel
theorem ct_10_count_ : (["true", "says"] : List Str).contains ("count" : Str) = false := by decide +kernel
theorem ct_11_nil_ : (["nil", "any", "kind", "seen", "last", "ahead"] : List Str).contains ("nil" : Str) = true := by decide +kernel
theorem ct_11_any_ : (["nil", "any", "kind", "seen", "last", "ahead"] : List Str).contains ("any" : Str) = true := by decide +kernel
theorem ct_11_kind_ : (["nil", "any", "kind", "seen", "last", "ahead"] : List Str).contains ("kind" : Str) = true := by decide +kernel
theorem ct_11_seen_ : (["nil", "any", "kind", "seen", "last", "ahead"] : List Str).contains ("seen" : Str) = true := by decide +kernel
theorem ct_11_last_ : (["nil", "any", "kind", "seen", "last", "ahead"] : List Str).contains ("last" : Str) = true := by decide +kernel
theorem ct_11_ahead_ : (["nil", "any", "kind", "seen", "last", "ahead"] : List Str).contains ("ahead" : Str) = true := by decide +kernel
theorem ct_11_not_ : (["nil", "any", "kind", "seen", "last", "ahead"] : List Str).contains ("not" : Str) = false := by decide +kernel
theorem ct_11_loop_ : (["nil", "any", "kind", "seen", "last", "ahead"] : List Str).contains ("loop" : Str) = false := by decide +kernel
theorem ct_11_then_ : (["nil", "any", "kind", "seen", "last", "ahead"] : List Str).contains ("then" : Str) = false := by decide +kernel
theorem ct_11_or_ : (["nil", "any", "kind", "seen", "last", "ahead"] : List Str).contains ("or" : Str) = false := by decide +kernel
theorem ct_11_and_ : (["nil", "any", "kind", "seen", "last", "ahead"] : List Str).contains ("and" : Str) = false := by decide +kernel
theorem ct_11_true_ : (["nil", "any", "kind", "seen", "last", "ahead"] : List Str).contains ("true" : Str) = false := by decide +kernel
theorem ct_11_says_ : (["nil", "any", "kind", "seen", "last", "ahead"] : List Str).contains ("says" : Str) = false := by decide +kernel
theorem ct_11_count_ : (["nil", "any", "kind", "seen", "last", "ahead"] : List Str).contains ("count" : Str) = false := by decide +kernel
theorem eq_nil_says : decide (("nil" : Str) = ("says" : Str)) = false := by decide +kernel
theorem eq_nil_count : decide (("nil" : Str) = ("count" : Str)) = false := by decide +kernel
theorem eq_any_says : decide (("any" : Str) = ("says" : Str)) = false := by decide +kernel
theorem eq_any_count : decide (("any" : Str) = ("count" : Str)) = false := by decide +kernel
theorem eq_kind_says : decide (("kind" : Str) = ("says" : Str)) = false := by decide +kernel
theorem eq_kind_count : decide (("kind" : Str) = ("count" : Str)) = false := by decide +kernel
theorem eq_seen_says : decide (("seen" : Str) = ("says" : Str)) = false := by decide +kernel
theorem eq_seen_count : decide (("seen" : Str) = ("count" : Str)) = false := by decide +kernel
theorem eq_last_says : decide (("last" : Str) = ("says" : Str)) = false := by decide +kernel
theorem eq_last_count : decide (("last" : Str) = ("count" : Str)) = false := by decide +kernel
theorem eq_ahead_says : decide (("ahead" : Str) = ("says" : Str)) = false := by decide +kernel
theorem eq_ahead_count : decide (("ahead" : Str) = ("count" : Str)) = false := by decide +kernel
theorem eq_not_says : decide (("not" : Str) = ("says" : Str)) = false := by decide +kernel
theorem eq_not_count : decide (("not" : Str) = ("count" : Str)) = false := by decide +kernel
theorem eq_loop_says : decide (("loop" : Str) = ("says" : Str)) = false := by decide +kernel
theorem eq_loop_count : decide (("loop" : Str) = ("count" : Str)) = false := by decide +kernel
theorem eq_then_says : decide (("then" : Str) = ("says" : Str)) = false := by decide +kernel
theorem eq_then_count : decide (("then" : Str) = ("count" : Str)) = false := by decide +kernel
theorem eq_or_says : decide (("or" : Str) = ("says" : Str)) = false := by decide +kernel
theorem eq_or_count : decide (("or" : Str) = ("count" : Str)) = false := by decide +kernel
theorem eq_and_says : decide (("and" : Str) = ("says" : Str)) = false := by decide +kernel
theorem eq_and_count : decide (("and" : Str) = ("count" : Str)) = false := by decide +kernel
theorem eq_true_says : decide (("true" : Str) = ("says" : Str)) = false := by decide +kernel
theorem eq_true_count : decide (("true" : Str) = ("count" : Str)) = false := by decide +kernel
theorem eq_says_says : decide (("says" : Str) = ("says" : Str)) = true := by decide +kernel
theorem eq_says_count : decide (("says" : Str) = ("count" : Str)) = false := by decide +kernel
theorem eq_count_says : decide (("count" : Str) = ("says" : Str)) = false := by decide +kernel
theorem eq_count_count : decide (("count" : Str) = ("count" : Str)) = true := by decide +kernel
end Ev
set_option Elab.async false
set_option linter.all false
set_option maxRecDepth 100000
/-! Wp7: comprehensions over the values of a list, by the list's own items. -/
namespace Ev
open PySem PySem.Spec PyProof.Rows
section
variable {τ : Type} {src : Src} {g : MG} {te : DE} {ρ : Rho} {G : GH} {P : List D → GH → Prop} {X : XP}
theorem lc_tau (us : List τ) (g0 h : τ → D) (w : Wf G) (hn : src.n = us.length) (hat : ∀ G', Grow G G' → (∀ k, k < us.length → src.at_ G' k = (us[k]?).map g0) ∧ src.fin G' = true)
    (step : ∀ u ∈ us, ∀ G', Grow G G' → ∃ ρ2, g (g0 u) ρ G' = some (ρ2, G') ∧ wp (te ρ2 G') (fun y G3 => y = h u ∧ Grow G' G3) NoX) (k : ∀ G', Grow G G' → P (us.map h) G') : wp (lcLoop src g tTrue te ρ src.n 0 [] G) P X := by
  refine lc_inv (fun k acc G' => Grow G G' ∧ acc = (us.take k).map h) ?_ ?_ src.n 0 [] G (Nat.zero_add _) ⟨Grow.refl w, by simp⟩
  · rintro j acc G' hj ⟨gr, rfl⟩
    have hj' : j < us.length := by omega
    obtain ⟨ρ2, h1, h2⟩ := step us[j] (List.getElem_mem hj') G' gr
    refine ⟨g0 us[j], ρ2, by rw [(hat G' gr).1 j hj', List.getElem?_eq_getElem hj']; rfl, h1, ?_⟩
    rw [wp_tTrue, if_pos rfl]
    refine wp_mono h2 fun y G3 h3 => ⟨gr.trans h3.2, ?_⟩
    rw [h3.1, show us.take (j + 1) = us.take j ++ [us[j]] from (List.take_append_getElem hj').symm]
    simp only [List.map_append, List.map_cons, List.map_nil]
  · rintro acc G' ⟨gr, rfl⟩
    refine ⟨(hat G' gr).2, ?_⟩
    rw [hn, List.take_of_length_le (Nat.le_refl _)]
    exact k G' gr
theorem hat_lt {us : List τ} {g0 : τ → D} {i n : Nat} (h : lstAt G i = some (us.map g0)) (hn : n = us.length) : ∀ G', Grow G G' → (∀ k, k < us.length → (srcL i n).at_ G' k = (us[k]?).map g0) ∧ (srcL i n).fin G' = true := fun G' gr => by
  subst hn
  have h' := gr.lst h
  constructor
  · intro k _
    show (match lstAt G' i with | some ds => if ds.length = us.length then ds[k]? else none | none => none) = _
    rw [h']; simp
  · show (match lstAt G' i with | some ds => decide (ds.length = us.length) | none => false) = true
    rw [h']; simp
theorem hat_vt {us : List τ} {g0 : τ → D} : ∀ G', Grow G G' → (∀ k, k < us.length → (srcV (us.map g0)).at_ G' k = (us[k]?).map g0) ∧ (srcV (us.map g0)).fin G' = true := fun _ _ => ⟨fun k _ => List.getElem?_map .., rfl⟩
theorem src_lt {us : List τ} {g0 : τ → D} {i : Nat} (h : lstAt G i = some (us.map g0)) : srcOf (.ref i) G = some (srcL i us.length) := by rw [src_lst h, List.length_map]
theorem Grow.map {g0 : τ → PyData} {us : List τ} (w : Wf G) : Grow G (G ++ [O.lst (us.map fun u => .p (g0 u))]) := Grow.data' (us.map g0) w (by rw [List.map_map]; rfl)
/-- lists, one after another -/
theorem lists_of {f : τ → Nat} {h : τ → List D} {us : List τ} (k : ∀ u ∈ us, lstAt G (f u) = some (h u)) : listsOf G (us.map fun u => .ref (f u)) = some (us.map h) := by
  induction us with
  | nil => rfl
  | cons u us ih =>
    simp only [List.map_cons, listsOf, k u (by simp), ih fun v hv => k v (by simp [hv]), Option.map_some]
end
end Ev
set_option Elab.async false
set_option linter.all false
set_option maxRecDepth 100000
/-! X1: an own error's name by its class: self.__class__.__name__ -/
namespace Ev
open PySem PySem.Spec PyProof.Rows L2
section
open PySem.W Builtin Builtin.ObjectAttr Builtin.Getset_descriptor
variable {prog : Program} {w : World} {A : Around} {E : Value → Shared → Prop} {s : Shared} {K : PySem.W.Frag} {x C : Addr} {ox : Obj} {od : Option Obj} {expr : Bool} {Q : Value → Shared → Prop} {R : Result → Shared → Prop}
/-- e.__class__ -/
theorem exc_class (X : K.In s.heap) (I : PySem.W.InstAt s.heap x ox C od) (hga : findIn K (.ref C) "__getattribute__" = some (some (.builtin "BaseException.__getattribute__"))) (hgt : findIn K (.ref C) "__getattr__" = some none)
    (hsub : subIn K (.ref C) (.type "BaseException") = some true) (hf : findObj K C od "__class__" = some (.bind (.builtin "getset_descriptor.__get__") (.builtin "object.__class__"))) (hm : mroIn K C (.type "object") = some true) (h : Q (.ref C) { s with toks := s.toks + 1 }) :
    wpAny (model prog w) A (getAttr (.ref x) "__class__" expr) Q E s := by
  obtain ⟨hp, g, d, t, os⟩ := s
  have L0 := I.type (M := model prog w)
  have L1 := looks_findIn (M := model prog w) X hga
  have L2 := looks_findIn (M := model prog w) X hgt
  have L3 := looks_find (M := model prog w) X I hf
  have sub : Looks (model prog w) hp (isInstance (.ref x) (.type "BaseException")) true := L0.andThen (looks_subIn X hsub)
  have hx0 : (expr && onTheHeap (Value.builtin "BaseException.__getattribute__")) = false := by cases expr <;> rfl
  have hx2 : (Value.builtin "BaseException.__getattribute__" == Value.builtin "object.__getattribute__") = false := by decide +kernel
  have hx1 : (onTheHeap (Value.ref C) && Value.builtin "BaseException.__getattribute__" == Value.builtin "object.__getattribute__") = false := by rw [hx2]; rfl
  unfold getAttr getAttrBy
  refine wpAny_bind (wpAny_mkText (wpAny_holding (wpAny_bind (L0.at (wpAny_bind (L1.at ?_))))))
  show wpAny _ _ (if (onTheHeap (Value.ref C) && Value.builtin "BaseException.__getattribute__" == Value.builtin "object.__getattribute__") = true then _ else _) _ _ _
  rw [hx1, if_neg Bool.false_ne_true]
  unfold getAttrByItsOwn hookBefore
  refine wpAny_bind ?_
  rw [if_pos (show onTheHeap (Value.ref C) = true from rfl)]
  refine L2.at ?_
  refine wpAny_bind (wpAny_attempt (wpAny_holding ?_))
  unfold callGetattribute
  rw [hx0, if_neg Bool.false_ne_true]
  unfold boundAndCalled
  rw [PySem.F.excAttr_ValueError.ga.bind (.ref x)]
  refine wpAny_bind (wpAny_pure ?_)
  show wpAny _ _ (call (.builtin "BaseException.__getattribute__") [.ref x, .str "__class__" t]) _ _ _
  refine wpAny_call (codeAny_call_builtin PySem.F.excAttr_ValueError.ga.plain PySem.F.entry_bexc_ga ?_)
  refine @PySem.W.check_slot (model prog w) _ _ ⟨hp, g, d, t + 1, os⟩ "BaseException.__getattribute__" "BaseException" "__getattribute__" (.ref x) [.str "__class__" t] [] _ (by decide +kernel) (by decide +kernel) sub (PySem.F.args_bexc_ga (.ref x) (.str "__class__" t)) ?_
  unfold Builtin.«object.__getattribute__»
  refine wpAny_bind (wpAny_of_eq (a := ((Value.ref x : Value), [Value.str "__class__" t])) (by first | rfl | (simp only [slotArgs]; rfl)) ?_)
  refine wpAny_bind (wpAny_pure (wpAny_bind (L0.at (wpAny_bind (L3.at ?_)))))
  refine wpAny_bind (wpAny_holding (wpAny_call (class_get (s := ⟨hp, g, d, t + 1, os⟩) (ox := ox) (od := od) X I hm ?_)))
  refine wpAny_pure ?_
  show wpAny _ _ (handedOut (.ref C)) _ _ _
  rw [handedOut_of (show handedIn (.ref C) = true from rfl)]
  first
    | exact wpAny_pure h
    | exact wpAny_pure (wpAny_pure h)
theorem cname_dga (d tp : Value) (C : Addr) : descrGetArgs ⟨[d, .ref C, tp], []⟩ = pure (d, some (.ref C), given tp) := by kernel_rfl
theorem cname_get {oC : Obj} {z : Str} {tz : Tok} {tp : Value} (X : K.In s.heap) (hl : K.lookup C = some oC) (hs : oC.slots[2]? = some (some (.str z tz))) (ht : typeIn K (.ref C) = some (.type "type")) (h : R (.ok (.ret (.str z tz))) s) :
    codeAny (model prog w) A (.call (.builtin "getset_descriptor.__get__") ⟨[.builtin "type.__name__", .ref C, tp], []⟩) R s := by
  obtain ⟨hh, g, dr, t, os⟩ := s
  have L0 : Looks (model prog w) hh (typeOf (.ref C)) (.type "type") := looks_typeIn X ht
  have L1 : Looks (model prog w) hh (isSubtype (.type "type") (.type "type")) true := Looks.of_pure (by rw [isSubtype_type]; kernel_rfl)
  refine codeAny_call_builtin KF.slot_gs.plain KF.entry_gs (KF.slot_gs.check _ _ _ _ _ _ _ _ ktyn_type (KF.args_gs _ _ _) ?_)
  unfold Builtin.«getset_descriptor.__get__» descrGet
  rw [cname_dga]
  refine wpAny_bind (wpAny_pure ?_)
  unfold descrGetter descrCheckInstance descrNameAndClass isInstance
  simp only [ktyn_owner]
  repeat lk
  refine ⟨Code.quiet_builtin _ (by decide +kernel), codeAny_builtin ktyn_entry ?_⟩
  unfold Builtin.«type.__name__»
  dsimp only
  unfold keptObject PySem.slotAt
  dsimp only
  refine wpAny_bind (wpAny_bind (wpAny_loadPart (X _ _ hl) (wpAny_pure ?_)))
  rw [hs]
  exact wpAny_pure h
/-- what the written part says of a class, for e.__class__.__name__ -/
structure CnC (K : Frag) (C : Addr) (z : Str) : Prop where
  hcl : (clsIn K C).isSome = true
  hga : findIn K (.ref C) "__getattribute__" = some (some (.builtin "BaseException.__getattribute__"))
  hgt : findIn K (.ref C) "__getattr__" = some none
  hsub : subIn K (.ref C) (.type "BaseException") = some true
  ha : findIn K (.ref C) "__class__" = some (some (.builtin "object.__class__"))
  hn : specialIn K (.builtin "object.__class__") "__get__" = some (some (.builtin "getset_descriptor.__get__"))
  ht : takesIn K (.builtin "object.__class__") = some true
  hm : mroIn K C (.type "object") = some true
  rd : readsIn K C (.type "type") = true
  nm : findCls K (.ref C) (.type "type") "__name__" = some (.get (.builtin "getset_descriptor.__get__") (.builtin "type.__name__") (.ref C) (.type "type"))
  ty : typeIn K (.ref C) = some (.type "type")
  at_ : ∃ oC tz, K.lookup C = some oC ∧ oC.slots[2]? = some (some (.str z tz))
  sz : z.length ≤ sizeLine
/-- e.__class__.__name__ -/
theorem exc_cname {z : Str} {p1 p2 p3 : Pos} {env : Env} (c : CnC K C z) (X : K.In s.heap) (I : PySem.W.InstAt s.heap x ox C od) (hb : attributeBase (.Name "self" p1) "__class__" env (eval (.Name "self" p1) env) = eval (.Name "self" p1) env) (hb2 : attributeBase (.Attribute (.Name "self" p1) "__class__" p2) "__name__" env (eval (.Attribute (.Name "self" p1) "__class__" p2) env) = eval (.Attribute (.Name "self" p1) "__class__" p2) env)
    (hs : ∀ (Q : Value → Shared → Prop), Q (.ref x) s → wpAny (model prog w) A (eval (.Name "self" p1) env) Q E s) (h : ∀ tk tz, Q (.str z tz) { s with toks := tk }) : wpAny (model prog w) A (eval (.Attribute (.Attribute (.Name "self" p1) "__class__" p2) "__name__" p3) env) Q E s := by
  obtain ⟨oC, tz, hl, hsl⟩ := c.at_
  refine attr_of hb2 ?_
  refine attr_of hb (hs _ ?_)
  refine exc_class X I c.hga c.hgt c.hsub (findObj_dataE c.hcl c.ha c.hn c.ht) c.hm ?_
  refine cls_bind X c.rd c.nm ?_
  refine wpAny_call (cname_get X hl hsl c.ty ?_)
  exact handed_on rfl (h _ _)
end
end Ev
set_option Elab.async false
set_option linter.all false
set_option maxRecDepth 100000
/-! X2: def class_name(self): return f"{self.__class__.__name__}", called -/
namespace Ev
open PySem PySem.Spec PyProof.Rows L2
def cnBody (p1 p2 p3 p4 p5 p6 : Pos) : List Stmt := [.Return (some (.JoinedStr [.FormattedValue (.Attribute (.Attribute (.Name "self" p1) "__class__" p2) "__name__" p3) (-1) none p4] p5)) p6]
def cnScope : Scope := { kind := .function, names := [(Str.ofString "self", .local)], isGenerator := false, isCoroutine := false, more := [] }
def cnArgs (a1 : Pos) : Arguments := { posonlyargs := [], args := [⟨"self", none, a1⟩], vararg := none, kwonlyargs := [], kw_defaults := [], kwarg := none, defaults := [] }
/-- what is asked of the written part: the method's object -/
structure CnF (K : PySem.W.Frag) (f : Addr) : Prop where
  ex : ∃ (oc : Value) (od : Option Addr) (osl : Array (Option Value)) (nm qual : Str) (a1 : Pos) (dV kV doc pm ct : Value) (an : Option Addr) (cda : Addr) (p1 p2 p3 p4 p5 p6 : Pos),
    K.lookup f = some ⟨oc, od, .func (PySem.W.fnX nm qual (cnArgs a1) (cnBody p1 p2 p3 p4 p5 p6) cnScope [] dV kV doc pm an (.ref cda) ct), osl⟩ ∧ PySem.W.codeIn K (.ref cda) qual = true ∧
    (∀ u : Value, bindArgs (PySem.W.fnX nm qual (cnArgs a1) (cnBody p1 p2 p3 p4 p5 p6) cnScope [] dV kV doc pm an (.ref cda) ct) ⟨[u], []⟩ = pure [(Str.ofString "self", u)])
section
variable {prog : Program} {w : World} {A : Around} {K : PySem.W.Frag} {C f e : Addr} {z : Str} {oe : Obj} {od : Option Obj} {hp : Heap} {g : Array GenState} {d : Drawn} {t : Nat} {os : OsState} {R : Result → Shared → Prop}
theorem run_cname (T : CnF K f) (c : CnC K C z) (X : K.In hp) (hl : hp.NoLimit) (hroom : A.depth < recursionLimit) (I : PySem.W.InstAt hp e oe C od)
    (hq : ∀ h' tk tz, (∀ b o, hp.get? b = some o → h'.get? b = some o) → R (.ok (.ret (.str z tz))) ⟨h', g, d, tk, os⟩) :
    codeAny (model prog w) A (.call (.ref f) ⟨[.ref e], []⟩) R ⟨hp, g, d, t, os⟩ := by
  obtain ⟨oc, odd, osl, nm, qual, a1, dV, kV, doc, pm, ct, an, cda, p1, p2, p3, p4, p5, p6, hf, hcd, hbd⟩ := T.ex
  refine ks_codeAny_call_defAt (binds := [("self", .ref e)]) hroom (X _ _ hf) rfl hl (PySem.W.codeRec_of X hcd) rfl (BindsTo.of_eq (hbd _)) (by intro x hx; simp only [PySem.W.fnX, cnScope, List.mem_cons, List.not_mem_nil, or_false] at hx; subst hx; exact fun z => by cases z) (by
    intro x hx
    simp only [List.mem_cons, List.not_mem_nil, or_false] at hx
    subst hx; rfl) (fun h₀ hns hk => ?_)
  have X0 : K.In h₀ := X.keeps hk
  have I0 : PySem.W.InstAt h₀ e oe C od := ⟨hk _ _ I.at_, I.cls, I.no, by
    have := I.dict
    cases q : oe.dict with
    | none => rw [q] at this; cases od with
      | none => exact trivial
      | some o => exact this
    | some dx => rw [q] at this; cases od with
      | none => exact this
      | some o => exact hk _ _ this⟩
  refine wpAt_of_wpAny (wpAny_execs_cons (wpAny_Return_some ?_))
  refine wpAny_JoinedStr_one (wpAny_FormattedValue_plain ?_)
  refine exc_cname c X0 I0 (by rfl) (by rfl) (fun Q q => wpAny_Name (wpAny_loadName_local rfl rfl hns rfl q) (by decide)) fun tk tz => ?_
  exact wpAny_formatField_str (hq _ _ _ hk) (hq _ _ _ hk) c.sz
end
end Ev
set_option Elab.async false
set_option linter.all false
set_option maxRecDepth 100000
/-! X3: own errors as values: made, read, asked, called -/
namespace Ev
open PySem PySem.Spec PyProof.Rows L2
/-- the method's object -/
structure MethN (K : PySem.W.Frag) (C f : Addr) : Prop where
  at_ : PySem.W.findIn K (.ref C) "class_name" = some (some (.ref f))
  fn : PySem.W.isFn K (.ref f) = true
  kp : PySem.W.keepIn K (.ref f) = true
  cf : CnF K f
/-- the dict of an error holds no such name -/
def NoN (H : Hp) (dd : Option Addr) (n : Str) : Prop := dd = none ∨ ∃ d vs, dd = some d ∧ H d = some (.xd vs) ∧ vs.lookup n = none
section
variable {X : Cx} {pins : List (Addr × Obj)} {σ : L2.St} {H : Hp} {s : Shared} {a C f : Addr} {dd : Option Addr} {n : Str}
/-- an error's object with its dict, as an instance -/
theorem inst_of {oe : Obj} {vs : Array Value} (I : Inv X pins σ H s) (he : s.heap.get? a = some oe) (hc : oe.cls = .ref C) (hd : oe.dict = dd) (hf : oe.data = .fields vs) (hn : NoN H dd n) :
    ∃ od, PySem.W.InstAt s.heap a oe C od ∧ PySem.W.shadowIn od n = some false := by
  have no : PySem.W.notCls oe = true := by unfold PySem.W.notCls; rw [hf] <;> rfl
  rcases hn with e | ⟨d, ws, e, hd2, hl⟩
  · subst e
    exact ⟨none, ⟨he, hc, no, by rw [hd]; trivial⟩, rfl⟩
  · subst e
    obtain ⟨mA, hns, hr⟩ := (show ObjOk X.prog X.w H s.heap d (.xd ws) from I.hok d _ hd2)
    obtain ⟨od, ho, hlk⟩ := lookIn_ns hns
    refine ⟨some od, ⟨he, hc, no, by rw [hd]; exact ho⟩, ?_⟩
    show (PySem.W.lookIn n od).map (·.isSome) = some false
    have q := hr n
    rw [hl] at q
    cases e : mA n with
    | some u => rw [e] at q; exact q.elim
    | none => rw [hlk, e]; rfl
/-- x.class_name() -/
theorem call_cname {oe : Obj} {ws : Array Value} {z : Str} {pl : Sem Bool} {pos : Pos} {Q : VK} {xe : Value → Shared → Prop} (I : Inv X pins σ H s) (M : MethN X.K C f) (c : CnC X.K C z) (he : s.heap.get? a = some oe) (hc : oe.cls = .ref C) (hd : oe.dict = dd) (hf : oe.data = .fields ws) (hn : NoN H dd "class_name") (hr : X.A.depth < recursionLimit) (q : Q (.str z) H) :
    wpAny (model X.prog X.w) X.A (getMethod (.ref a) "class_name" pl) (fun p s' => wpAny (model X.prog X.w) X.A (callWith pos p.1 p.2 (backTo pos (starEach [] X.env)) (backToKw pos (keywordEach [] X.env))) (EP X pins σ Q) xe s') xe s := by
  obtain ⟨od, J, hs⟩ := inst_of I he hc hd hf hn
  obtain ⟨m, fr⟩ := I.fr
  refine PySem.W.method_exc fr I.ok.mod.kin J c.hga c.hgt M.at_ M.fn hs ?_
  refine PySem.W.callWith_K0 (first := [.ref a]) I.kIn M.kp ?_
  obtain ⟨hp, g, d, t, os⟩ := s
  refine wpAny_call (run_cname M.cf c I.kIn I.nolimit hr J fun h' tk tz k => ?_)
  exact ⟨.str z, H, I.kept (t' := tk) k, ⟨tz, rfl⟩, q⟩
end
end Ev
set_option Elab.async false
set_option linter.all false
set_option maxRecDepth 100000
/-! X4: rules: o.class_name(), also in a suite; C(), C(a, b) as values; x.f -/
namespace Ev
open PySem PySem.Spec PyProof.Rows L2
section
variable {X : Cx} {o e : Expr} {es : List Expr} {ta te : TE} {tas : TA} {f C : Addr} {x n : Str} {p pos apos : Pos}
/-- o.class_name(), o an error of ours -/
def tCn (K : PySem.W.Frag) (ta : TE) : TE := fun σ H Q => ta σ H fun x H1 => ∃ a C f dd z, x = .ref a ∧ H1 a = some (exo a C dd) ∧ NoN H1 dd "class_name" ∧ MethN K C f ∧ CnC K C z ∧ Q (.str z) H1
theorem pe_cn {pl : Sem Bool} (he : PE X o ta) (hr : X.A.depth < recursionLimit)
    (ht : eval (.Call (.Attribute o "class_name" apos) [] [] pos) X.env = (do
      let ov ← eval o X.env
      standAt apos.atName
      let (f, first) ← holding [ov] (getMethod ov "class_name" pl)
      callWith pos f first (backTo pos (starEach [] X.env)) (backToKw pos (keywordEach [] X.env))) := by rfl) :
    PE X (.Call (.Attribute o "class_name" apos) [] [] pos) (tCn X.K ta) := by
  refine ⟨fun pins s σ H Q I h => ?_⟩
  refine PySem.W.methodCall_KW (pl := pl) (thn (he.run pins s σ H _ I h) fun u s1 ⟨x, H1, I1, rx, a, C, f, dd, z, ex, ea, hn, M, c, q⟩ => ?_) ht
  subst ex
  obtain rfl : u = Value.ref a := rx
  obtain ⟨t1, ho⟩ := exo_at I1.hok ea
  exact call_cname I1 M c ho rfl rfl rfl hn hr q
/-- return err.class_name() -/
def tsCn (K : PySem.W.Frag) (i : Nat) : Addr → Value → Option Addr → TS := fun a cls dd Y σ H => σ[i]? = some (some (.ref a)) ∧ ∃ C f z, cls = .ref C ∧ NoN H dd "class_name" ∧ MethN K C f ∧ CnC K C z ∧ Y.rt (.str z) H
theorem cn_ps {pl : Sem Bool} {i : Nat} {n : Str} {q1 q2 q3 q4 : Pos} (hN : X.N[i]? = some n) (hv : Vis X.env.scope n) (hr : X.A.depth < recursionLimit) (hd : (n == ("__debug__" : Str)) = false) (hcd : (n == ("__classdict__" : Str)) = false)
    (ht : eval (.Call (.Attribute (.Name n q1) "class_name" q2) [] [] q3) X.env = (do
      let ov ← eval (.Name n q1) X.env
      standAt q2.atName
      let (f, first) ← holding [ov] (getMethod ov "class_name" pl)
      callWith q3 f first (backTo q3 (starEach [] X.env)) (backToKw q3 (keywordEach [] X.env))) := by rfl) :
    SuitePs X [.Return (some (.Call (.Attribute (.Name n q1) "class_name" q2) [] [] q3)) q4] (tsCn X.K i) := fun a ob cls dd pn hz hfl => by
  have key : PE (X.suite a ((a, ob) :: pn)) (.Call (.Attribute (.Name n q1) "class_name" q2) [] [] q3) (fun σ H Q => σ[i]? = some (some (.ref a)) ∧ ∃ C f z, cls = .ref C ∧ NoN H dd "class_name" ∧ MethN X.K C f ∧ CnC X.K C z ∧ Q (.str z) H) := by
    refine ⟨fun pins s σ H Q I h => ?_⟩
    obtain ⟨hs, C, f, z, ec, hn, M, c, q⟩ := h
    refine PySem.W.methodCall_KW (pl := pl) (thn ((pe_var (X := X.suite a ((a, ob) :: pn)) hN hv hd hcd).run pins s σ H (fun v H1 => v = .ref a ∧ H1 = H) I ⟨_, hs, rfl, rfl⟩) fun u s1 ⟨x, H1, I1, rx, ex, eH⟩ => ?_) ht
    subst ex eH
    obtain rfl : u = Value.ref a := rx
    obtain ⟨hget, _⟩ := I1.pin (a, ob) (List.mem_append.mpr (.inl List.mem_cons_self))
    obtain ⟨vs, hvs⟩ := hfl
    exact call_cname I1 M c hget (by rw [hz.1, ec]) hz.2 hvs hn hr q
  exact wkSs (pss_one (ps_ret key)) fun D σ H h => h
/-- C(), C without an __init__ of its own -/
theorem pe_mk0 {bmB : List Value} {B newId initId : String} (F : ExcBaseFacts B newId initId bmB) (q : PySem.W.excIn X.K C bmB newId = true) (hm : X.mg x = some (.ref C)) (kC : PySem.W.keepIn X.K (.ref C) = true) (hg : Gl X x) (hdb : (x == ("__debug__" : Str)) = false := by decide) :
    PE X (.Call (.Name x p) [] [] pos) (fun _ H Q => ∀ a, H a = none → Q (.ref a) (L2.upd H a (exo a C none))) := ⟨fun pins s σ H Q I h => by
  refine wpAny_Call_Name_kw (ld_glob I hg hm (PySem.W.callWith_K0 I.kIn kC ?_) hdb)
  obtain ⟨bm, N, nm, qn, bs, hdct, sn, sub, ab, col, dd, k0, k1, k2, k3, k5, mN, hC, hN, hni, T⟩ := exc_obj I.kIn q
  refine wpAny_call_exc_subT F T hC hN hni (fun h' a mk => ?_) (by show 0 ≤ sizeLine; exact Nat.zero_le _)
  have hn : H a = none := I.hok.gone mk.new
  obtain ⟨t, ht, _, _⟩ := mk.there
  exact ⟨.ref a, L2.upd H a (exo a C none), I.laidN mk.keeps mk.new hn (exo_ok ht), rfl, h a hn⟩⟩
/-- x.f, a field of an error of ours -/
def tXa (K : PySem.W.Frag) (n : Str) (te : TE) : TE := fun σ H Q => te σ H fun x H1 => ∃ a C d vs v, x = .ref a ∧ H1 a = some (exo a C (some d)) ∧ H1 d = some (.xd vs) ∧ XfC K C ∧ PySem.W.findIn K (.ref C) n = some none ∧ vs.lookup n = some v ∧ Q v H1
theorem pe_xa (he : PE X o ta) (hb : attributeBase o n X.env (eval o X.env) = eval o X.env := by rfl) : PE X (.Attribute o n pos) (tXa X.K n ta) := by
  refine ⟨fun pins s σ H Q I h => ?_⟩
  refine attr_of hb (thn (he.run pins s σ H _ I h) fun u s1 hh => ?_)
  obtain ⟨x, H1, I1, rx, a, C, d, vs, v, ex, ea, ed, T, hno, l, q⟩ := hh
  subst ex
  obtain rfl : u = Value.ref a := rx
  obtain ⟨t1, ho⟩ := exo_at I1.hok ea
  have hx : ObjOk X.prog X.w H1 s1.heap d (.xd vs) := I1.hok d _ ed
  obtain ⟨mA, hns, hr⟩ := hx
  obtain ⟨od, hod, hl⟩ := lookIn_ns hns
  obtain ⟨u, hu, ru⟩ := RelO.some_of (v := v) (o := mA n) (by rw [← l]; exact hr n)
  have J : PySem.W.InstAt s1.heap a { cls := .ref C, dict := some d, data := .fields #[.ref t1, .none, .none, .none, .bool false, .none] } C (some od) := ⟨ho, rfl, rfl, hod⟩
  exact HandSPX.exc_get I1.kIn J T.ga T.gg T.exC (PySem.W.findObj_own T.hdC hno rfl (by rw [hl, hu])) (handed_of ru) ⟨v, H1, I1.tok _, ru, q⟩
/-- isinstance(x, c), x an error of ours -/
structure IsC (K : PySem.W.Frag) (C : Addr) : Prop where
  hcl : (PySem.W.clsIn K C).isSome = true
  hga : PySem.W.findIn K (.ref C) "__getattribute__" = some (some (.builtin "BaseException.__getattribute__"))
  hgt : PySem.W.findIn K (.ref C) "__getattr__" = some none
  hsub : PySem.W.subIn K (.ref C) (.type "BaseException") = some true
  ha : PySem.W.findIn K (.ref C) "__class__" = some (some (.builtin "object.__class__"))
  hn : PySem.W.specialIn K (.builtin "object.__class__") "__get__" = some (some (.builtin "getset_descriptor.__get__"))
  ht : PySem.W.takesIn K (.builtin "object.__class__") = some true
  hm : PySem.W.mroIn K C (.type "object") = some true
def rIsX (K : PySem.W.Frag) : List V → Hp → VK → Prop := fun xs H Q => ∃ (a C : Addr) (dd : Option Addr) (c : V) (cv : Value) (b : Bool), xs = [.ref a, c] ∧ H a = some (exo a C dd) ∧ (dd = none ∨ ∃ d vs, dd = some d ∧ H d = some (.xd vs)) ∧ IsC K C ∧ (∀ u, RelV c u → u = cv) ∧ PySem.W.kitOne K (.ref C) cv = some b ∧ Q (.bl b) H
theorem call_isX : CallR X (.builtin "isinstance") (rIsX X.K) := by
  intro pins s σ H xs us Q I r h
  obtain ⟨a, C, dd, c, cv, b, rfl, ea, hdd, T, hcv, e, q⟩ := h
  cases r with
  | cons rx rr =>
    cases rr with
    | cons rt rr =>
      cases rr
      cases rx
      have ec := hcv _ rt
      subst ec
      obtain ⟨t1, ho⟩ := exo_at I.hok ea
      have key : ∃ od, PySem.W.InstAt s.heap a { cls := .ref C, dict := dd, data := .fields #[.ref t1, .none, .none, .none, .bool false, .none] } C od := by
        rcases hdd with e1 | ⟨d, vs, e1, hd⟩
        · subst e1; exact ⟨none, ho, rfl, rfl, trivial⟩
        · subst e1
          obtain ⟨mA, hns, hr⟩ := (show ObjOk X.prog X.w H s.heap d (.xd vs) from I.hok d _ hd)
          obtain ⟨od, hod, _⟩ := lookIn_ns hns
          exact ⟨some od, ho, rfl, rfl, hod⟩
      obtain ⟨od, J⟩ := key
      exact PySem.W.kia_one (PySem.W.kitx_exc (od := od) (ox := { cls := .ref C, dict := dd, data := .fields #[.ref t1, .none, .none, .none, .bool false, .none] }) T.hcl T.hga T.hgt T.hsub T.ha T.hn T.ht T.hm) I.kIn J e (fun z => nomatch z) fun tk => ⟨.bl b, H, I.kept (t' := tk) fun _ _ z => z, rfl, q⟩
end
end Ev
set_option Elab.async false
set_option linter.all false
set_option maxRecDepth 100000
/-! X5: an own error with one datum: super().__init__(a); self.a = a -/
namespace Ev
open PySem PySem.Spec PyProof.Rows L2
def body1 (n1 : Str) (p1 p2 p3 p4 p5 p6 p7 p8 p9 p10 p11 : Pos) : List Stmt := [
  .Expr (.Call (.Attribute (.Call (.Name "super" p1) [] [] p2) "__init__" p3) [.Name n1 p4] [] p6) p7,
  .Assign [.Attribute (.Name "self" p8) n1 p9] (.Name n1 p10) p11]
def scope1 (n1 : Str) : Scope := { kind := .function, names := [(Str.ofString "self", .local), (n1, .local), (Str.ofString "__class__", .free), (Str.ofString "super", .globalImplicit)], isGenerator := false, isCoroutine := false, more := [] }
/-- how super().__init__(a, b) is gone through -/
def SupCall1 (env : Env) (n1 : Str) (p1 p2 p3 p4 p5 p6 : Pos) : Prop := ∃ pl : Sem Bool, eval (.Call (.Attribute (.Call (.Name "super" p1) [] [] p2) "__init__" p3) [.Name n1 p4] [] p6) env = (do
  let ov ← attributeBase (.Call (.Name "super" p1) [] [] p2) "__init__" env (eval (.Call (.Name "super" p1) [] [] p2) env)
  standAt p3.atName
  let (f, first) ← holding [ov] (getMethod ov "__init__" pl)
  callWith p6 f first (backTo p6 (starEach [.Name n1 p4] env)) [])
/-- what is asked of the written part and of the top -/
structure Init1 (prog : Program) (K : PySem.W.Frag) (C fI : Addr) (n1 : Str) : Prop where
  ex : ∃ (oc : Value) (od : Option Addr) (osl : Array (Option Value)) (qual : Str) (a1 a2 : Pos) (dV kV doc pm ct : Value) (an : Option Addr) (cda cc : Addr) (p1 p2 p3 p4 p5 p6 p7 p8 p9 p10 p11 : Pos),
    K.lookup fI = some ⟨oc, od, .func (PySem.W.fnX "__init__" qual { posonlyargs := [], args := [⟨"self", none, a1⟩, ⟨n1, none, a2⟩], vararg := none, kwonlyargs := [], kw_defaults := [], kwarg := none, defaults := [] } (body1 n1 p1 p2 p3 p4 p5 p6 p7 p8 p9 p10 p11) (scope1 n1) [("__class__", cc)] dV kV doc pm an (.ref cda) ct), osl⟩ ∧
    PySem.W.codeIn K (.ref cda) qual = true ∧
    (∀ u v1 : Value, bindArgs (PySem.W.fnX "__init__" qual { posonlyargs := [], args := [⟨"self", none, a1⟩, ⟨n1, none, a2⟩], vararg := none, kwonlyargs := [], kw_defaults := [], kwarg := none, defaults := [] } (body1 n1 p1 p2 p3 p4 p5 p6 p7 p8 p9 p10 p11) (scope1 n1) [("__class__", cc)] dV kV doc pm an (.ref cda) ct) ⟨[u, v1], []⟩ = pure [(Str.ofString "self", u), (n1, v1)]) ∧
    (∀ l : Addr, SupCall1 (callEnv (PySem.W.fnX "__init__" qual { posonlyargs := [], args := [⟨"self", none, a1⟩, ⟨n1, none, a2⟩], vararg := none, kwonlyargs := [], kw_defaults := [], kwarg := none, defaults := [] } (body1 n1 p1 p2 p3 p4 p5 p6 p7 p8 p9 p10 p11) (scope1 n1) [("__class__", cc)] dV kV doc pm an (.ref cda) ct) l fI) n1 p1 p2 p3 p4 p5 p6) ∧
    (∃ cl cld csl, K.lookup cc = some ⟨cl, cld, .cell (some (.ref C)), csl⟩) ∧
    (∃ ccl cdd vs ccs file tf, K.lookup cda = some ⟨ccl, cdd, .fields vs, ccs⟩ ∧ vs[2]? = some (.str file tf) ∧ ((prog.main.file : Str) == file) = true)
  oex : OexC K C
  sub : PySem.W.mroIn K C (.ref C) = some true
  sup : PySem.W.ks_superIn K C C "__init__" = some (some (.builtin "ValueError.__init__"))
  ve : PySem.W.subIn K (.ref C) (.type "ValueError") = some true
  any : PySem.W.nsIn K cStatics "thirdparty.any" = some none
  top : (prog.main.scope.names.lookup ("super" : Str)).isSome = false
  f1 : PySem.W.findIn K (.ref C) n1 = some none
  ls : (scope1 n1).names.lookup (Str.ofString "super") = some .globalImplicit
  lc : (scope1 n1).names.lookup (Str.ofString "__class__") = some .free
  s1 : n1 ≠ "self"
  d1 : (n1 == ("__debug__" : Str)) = false
section
variable {prog : Program} {w : World} {A : Around} {K : PySem.W.Frag} {C fI : Addr} {n1 : Str} {hp : Heap} {g : Array GenState} {d : Drawn} {t : Nat} {os : OsState} {mg mb : Str → Option Value} {R : Result → Shared → Prop}
theorem run_init1 (T : Init1 prog K C fI n1) (X : K.In hp) (hl : hp.NoLimit) (hg : hp.Ns mainGlobals mg) (hb : hp.Ns builtinsNs mb) (gs : mg "super" = none) (bsup : mb "super" = some (.type "super")) (hroom : A.depth < recursionLimit) {e t0 : Addr} {v1 : Value} (hKe : K.lookup e = none) (he : hp.get? e = some (HandSPX.excO C t0))
    (hq : ∀ h' tk dx t1, (∀ b o, b ≠ e → hp.get? b = some o → h'.get? b = some o) → hp.objs.size ≤ dx → dx ≠ e → h'.get? e = some ({ cls := .ref C, dict := some dx, data := .fields #[.ref t1, .none, .none, .none, .bool false, .none] } : Obj) →
      h'.Ns1 dx (fun y => if y = n1 then some v1 else none) → R (.ok (.ret .none)) ⟨h', g, d, tk, os⟩) :
    codeAny (model prog w) A (.call (.ref fI) ⟨[.ref e, v1], []⟩) R ⟨hp, g, d, t, os⟩ := by
  obtain ⟨oc, od, osl, qual, a1, a2, dV, kV, doc, pm, ct, an, cda, cc, p1, p2, p3, p4, p5, p6, p7, p8, p9, p10, p11, hf, hcd, hbd, hsc, ⟨cl, cld, csl, hcell⟩, ccl, cdd, vs, ccs, file, tf, hco, hvs, hfile⟩ := T.ex
  obtain ⟨nm, q, N, bs, bm, sn, sub, ab, col, dd, k0, k1, k2, k3, k5, hC, hbm⟩ := T.oex.cls
  have hcl : PySem.W.clsIn K C = some { name := nm, bases := bs, mro := .ref C :: bm, ns := N, qualname := q, hasDict := true, slotNames := sn, subclasses := sub, abstract := ab, collection := col, hasDel := false } := by unfold PySem.W.clsIn; rw [hC]
  have l1 : (scope1 n1).names.lookup n1 = some .local := by
    have : (n1 == Str.ofString "self") = false := by simpa using T.s1
    simp [scope1, List.lookup, this]
  refine ks_codeAny_call_defAt (binds := [("self", .ref e), (n1, v1)]) hroom (X _ _ hf) rfl hl (PySem.W.codeRec_of X hcd) rfl (BindsTo.of_eq (hbd _ _)) (by intro x hx; simp only [PySem.W.fnX, scope1, List.mem_cons, List.not_mem_nil, or_false] at hx; rcases hx with e | e | e | e <;> subst e <;> exact fun z => by cases z) (by
    intro x hx
    simp only [List.mem_cons, List.not_mem_nil, or_false] at hx
    rcases hx with e | e
    · subst e; rfl
    · subst e; exact l1) (fun h₀ hns hk => ?_)
  -- the names at the entry
  have ms : ([(Str.ofString "self", Value.ref e), (n1, v1)] : List (Str × Value)).reverse.lookup (Str.ofString "self") = some (Value.ref e) := by
    have z2 : (Str.ofString "self" == n1) = false := by simpa using fun e => T.s1 e.symm
    show List.lookup (Str.ofString "self") [(n1, v1), (Str.ofString "self", Value.ref e)] = _
    rw [List.lookup, z2, List.lookup]
    simp
  have m1 : ([(Str.ofString "self", Value.ref e), (n1, v1)] : List (Str × Value)).reverse.lookup n1 = some v1 := by
    show List.lookup n1 [(n1, v1), (Str.ofString "self", Value.ref e)] = _
    rw [List.lookup]
    simp
  have he0 := hk _ _ he
  have ltE : e < hp.objs.size := Heap.lt_size he
  have eL : e ≠ hp.objs.size := Nat.ne_of_lt ltE
  have X0 : K.In h₀ := X.keeps hk
  obtain ⟨pl, hpl⟩ := hsc hp.objs.size
  refine ks_wpAt_execs_cons (ks_wpAt_Expr_any (ks_wpAt_MethodCall (pl := pl) ?_ hpl) rfl (by rfl))
  refine ks_wpAt_super_base (ar := ⟨"self", none, a1⟩) T.ls T.lc rfl rfl (X0 _ _ hf) rfl rfl rfl (X0 _ _ hco) rfl hvs hfile T.top ?_
  refine W.ks_loadName_global rfl T.ls (Calls.loadGlobal_builtin (hg.keeps hk) gs (hb.keeps hk) bsup ⟨rfl, ?_⟩)
  refine wpAny_loadName_free rfl T.lc rfl ⟨_, X0 _ _ hcell, rfl⟩ ?_
  refine wpAny_loadName_local rfl rfl hns ms ?_
  refine ks_wpAny_isType_cls (X0 _ _ hC) rfl ⟨rfl, ?_⟩
  refine ks_wpAny_call_super (X0 _ _ hC) rfl he0 rfl (fun c z => by cases z) (PySem.W.looks_mroIn X0 T.sub) (fun h1 e1 k1 => ?_)
  have X1 : K.In h1 := X0.keeps k1
  have he1 := k1 _ _ he0
  have hns1 : h1.Ns hp.objs.size (fun x => ([(Str.ofString "self", Value.ref e), (n1, v1)] : List (Str × Value)).reverse.lookup x) := hns.keeps k1
  have I1 : PySem.W.InstAt h1 e (HandSPX.excO C t0) C none := ⟨he1, rfl, rfl, trivial⟩
  have hI : PySem.W.Looks (model prog w) h1 (isInstance (.ref e) (.type "ValueError")) true := I1.type.andThen (PySem.W.looks_subIn X1 T.ve)
  have hsup := T.sup
  unfold PySem.W.ks_superIn at hsup
  rw [hcl] at hsup
  refine W.kxs_getMethod W.kxs_ValueError e1 (PySem.W.looks_opaque X1 T.any) (l₀ := .ref C :: bm) (fun A Q E s k q => wpAny_bind ((PySem.W.looks_clsIn X1 hcl) A _ E s k (wpAny_pure q))) rfl X1 hsup hI (PySem.W.ks_ne X1 I1 hcl) rfl ?_
  have hu : (h1.push (W.kxs_mw "ValueError.__init__" e)).get? h1.objs.size = some (W.kxs_mw "ValueError.__init__" e) := Heap.get?_push_at rfl rfl
  have k2 : ∀ b o, h1.get? b = some o → (h1.push (W.kxs_mw "ValueError.__init__" e)).get? b = some o := fun b o z => Heap.get?_push_of_some _ z
  have hns2 := hns1.keeps k2
  have nm0 : ∀ {h : Heap} {tk : Nat} {x : Str} {v : Value} {p : Pos} {A' : Around} {E' Q' : Value → Shared → Prop}, h.Ns hp.objs.size (fun x => ([(Str.ofString "self", Value.ref e), (n1, v1)] : List (Str × Value)).reverse.lookup x) → (scope1 n1).names.lookup x = some .local → ([(Str.ofString "self", Value.ref e), (n1, v1)] : List (Str × Value)).reverse.lookup x = some v → (x == ("__debug__" : Str)) = false → Q' v ⟨h, g, d, tk, os⟩ →
      wpAny (model prog w) A' (eval (.Name x p) (callEnv (PySem.W.fnX "__init__" qual { posonlyargs := [], args := [⟨"self", none, a1⟩, ⟨n1, none, a2⟩], vararg := none, kwonlyargs := [], kw_defaults := [], kwarg := none, defaults := [] } (body1 n1 p1 p2 p3 p4 p5 p6 p7 p8 p9 p10 p11) (scope1 n1) [("__class__", cc)] dV kV doc pm an (.ref cda) ct) hp.objs.size fI)) Q' E' ⟨h, g, d, tk, os⟩ :=
    fun {h tk x v p A' E' Q'} hn hl hv hd q => wpAny_Name (wpAny_loadName_local rfl hl hn hv q) hd
  refine W.kxs_callWith (i := "ValueError.__init__") (x := e) rfl (Calls.evalArgs_plain ?_)
  show wpAny (model prog w) _ (spliced [(false, eval (.Name n1 p4) _)]) _ _ _
  refine Calls.spliced_cons (nm0 hns2 l1 m1 T.d1 (Calls.spliced_nil ⟨hu, ?_⟩))
  refine bound_ve (h := h1.push (W.kxs_mw "ValueError.__init__" e)) (k2 _ _ (X1 _ _ hC)) (k2 _ _ he1) hu (by show 1 ≤ sizeLine; decide) (fun h3 t1 k3 he3 => ?_)
  -- self.n1 = n1
  have k03 : ∀ b o, b ≠ e → h₀.get? b = some o → h3.get? b = some o := fun b o hb z => k3 b o hb (k2 _ _ (k1 _ _ z))
  have X3 : K.In h3 := fun b o z => k3 b o (fun ee => by rw [ee, hKe] at z; cases z) (k2 _ _ (X1 _ _ z))
  obtain ⟨oL, esL, epL, hL1, hL2⟩ := id hns2
  have hns3 : h3.Ns hp.objs.size (fun x => ([(Str.ofString "self", Value.ref e), (n1, v1)] : List (Str × Value)).reverse.lookup x) := ⟨oL, esL, epL, k3 _ _ (Ne.symm eL) hL1, hL2⟩
  refine wpAt_of_wpAny (wpAny_execs_cons (plainObj_wpAny_Assign_Attribute (nm0 hns3 l1 m1 T.d1 (nm0 hns3 rfl ms (by decide) ?_)) (by rfl)))
  have hmr : HandSPX.refsVE (.ref C :: bm) = true := hbm
  refine PySem.W.set_plain X3 (ox := HandSPX.excO C t1) (od := none) ⟨he3, rfl, rfl, trivial⟩ T.oex.sa (HandSPX.exc_osa X3 he3 hcl hmr rfl T.f1 (fun h4 tk4 dx k4 dn dne he4 hn4 => ?_))
  have k04 : ∀ b o, b ≠ e → h₀.get? b = some o → h4.get? b = some o := fun b o hb z => k4 b o hb (k03 b o hb z)
  have dxh : hp.objs.size + 1 ≤ dx := by
    obtain ⟨o, _, _, z, _⟩ := id hns3
    have z2 : hp.objs.size < h3.objs.size := Heap.lt_size z
    have z3 : h3.objs.size ≤ dx := dn
    omega
  refine wpAny_execs_nil ?_
  exact hq h4 tk4 dx t1 (fun b o hb z => k04 b o hb (hk _ _ z)) (by omega) dne he4 hn4
end
end Ev
set_option Elab.async false
set_option linter.all false
set_option maxRecDepth 100000
/-! X6: own errors with data, made as values, raised -/
namespace Ev
open PySem PySem.Spec PyProof.Rows L2
section
variable {X : Cx} {pins : List (Addr × Obj)} {σ : L2.St} {H1 : Hp} {hp h' : Heap} {g : Array GenState} {dr : Drawn} {tk tk' : Nat} {os : OsState} {us : List Value} {C dx t1 : Addr} {fs : List (Str × V)} {mA : Str → Option Value}
/-- where the error's object is laid -/
abbrev madeAt (hp : Heap) : Addr := hp.objs.size + 1
abbrev madeHp (hp : Heap) (us : List Value) (C : Addr) : Heap := (hp.push (PySem.W.kdv_tup us)).push (PySem.HandSPX.excO C hp.objs.size)
theorem made_kk : ∀ b o, hp.get? b = some o → (madeHp hp us C).get? b = some o := fun b o z => Heap.get?_push_of_some _ (Heap.get?_push_of_some _ z)
theorem made_get : (madeHp hp us C).get? (madeAt hp) = some (PySem.HandSPX.excO C hp.objs.size) := by heap_get
/-- the error stands, its dict beside -/
theorem made_val (I1 : Inv X pins σ H1 ⟨hp, g, dr, tk, os⟩) (k : ∀ b o, b ≠ madeAt hp → (madeHp hp us C).get? b = some o → h'.get? b = some o) (dn : (madeHp hp us C).objs.size ≤ dx) (dne : dx ≠ madeAt hp)
    (hx : h'.get? (madeAt hp) = some ({ cls := .ref C, dict := some dx, data := .fields #[.ref t1, .none, .none, .none, .bool false, .none] } : Obj)) (hn : h'.Ns1 dx mA) (rel : ∀ f, RelO (fs.lookup f) (mA f)) :
    H1 (madeAt hp) = none ∧ H1 dx = none ∧ Inv X pins σ (L2.upd (L2.upd H1 dx (.xd fs)) (madeAt hp) (exo (madeAt hp) C (some dx))) ⟨h', g, dr, tk', os⟩ := by
  have hsz : hp.objs.size ≤ madeAt hp := Nat.le_succ _
  have nE : H1 (madeAt hp) = none := I1.hok.fresh hsz
  have l2 : madeAt hp < dx := Nat.lt_of_lt_of_le (Heap.lt_size (made_get (us := us) (C := C))) dn
  have hnd : H1 dx = none := I1.hok.fresh (show hp.objs.size ≤ dx from Nat.le_of_lt (Nat.lt_of_le_of_lt hsz l2))
  have nea : ∀ {b : Addr} {o : Obj}, hp.get? b = some o → b ≠ madeAt hp := fun {b o} z => Nat.ne_of_lt (Nat.lt_of_lt_of_le (Heap.lt_size z) hsz)
  have nex : ∀ {b : Addr} {o : Obj}, hp.get? b = some o → b ≠ dx := fun {b o} z => Nat.ne_of_lt (Nat.lt_trans (Nat.lt_of_lt_of_le (Heap.lt_size z) hsz) l2)
  have kk : ∀ b o, hp.get? b = some o → h'.get? b = some o := fun b o z => k b o (nea z) (made_kk b o z)
  refine ⟨nE, hnd, I1.call' (ch := []) rfl { keep := fun b o z n _ _ => kk b o z, slot := fun b o z n _ _ => ⟨o.slots, kk b o z⟩, free := fun b o z n _ => by rw [upd_ne (nea z), upd_ne (nex z)]; exact n, there := fun b o z _ => ⟨o, kk b o z⟩, tups := fun b xs z => by rw [upd_ne (ne_of_none z nE), upd_ne (ne_of_none z hnd)]; exact z, frzs := fun b o v z => by rw [upd_ne (ne_of_none z nE), upd_ne (ne_of_none z hnd)]; exact z, tbls := fun b ps z => ⟨#[], by rw [upd_ne (ne_of_none z nE), upd_ne (ne_of_none z hnd), z]; simp⟩ } (fun b o z => ?_) I1.bare (fun b z => absurd z (by simp))⟩
  by_cases hb : b = madeAt hp
  · subst hb
    rw [upd_same] at z
    cases z
    exact exo_ok hx
  · rw [upd_ne hb] at z
    by_cases hd : b = dx
    · subst hd
      rw [upd_same] at z
      cases z
      exact ⟨mA, hn, rel⟩
    · rw [upd_ne hd] at z
      exact (I1.hok b o z).stay (fun c v hc y => kk c v y) (fun c hc => by rw [upd_ne (ne_of_none hc nE), upd_ne (ne_of_none hc hnd)]; exact hc) (fun c xs hc => by rw [upd_ne (ne_of_none hc nE), upd_ne (ne_of_none hc hnd)]; exact hc)
/-- the same, raised -/
theorem made_raise {Q : XK} (T : OexC X.K C) (I1 : Inv X pins σ H1 ⟨hp, g, dr, tk, os⟩) (k : ∀ b o, b ≠ madeAt hp → (madeHp hp us C).get? b = some o → h'.get? b = some o) (dn : (madeHp hp us C).objs.size ≤ dx) (dne : dx ≠ madeAt hp)
    (hx : h'.get? (madeAt hp) = some ({ cls := .ref C, dict := some dx, data := .fields #[.ref t1, .none, .none, .none, .bool false, .none] } : Obj)) (hn : h'.Ns1 dx mA) (rel : ∀ f, RelO (fs.lookup f) (mA f)) (q : H1 dx = none → Q (.ref C) (some dx) (L2.upd H1 dx (.xd fs))) :
    MkP X pins σ Q (.ref (madeAt hp)) ⟨h', g, dr, tk', os⟩ := by
  have hsz : hp.objs.size ≤ hp.objs.size + 1 := Nat.le_succ _
  have nE : H1 (hp.objs.size + 1) = none := I1.hok.fresh hsz
  have I2 : Inv X pins σ (L2.upd H1 (hp.objs.size + 1) (exo (hp.objs.size + 1) C none)) ⟨madeHp hp us C, g, dr, tk, os⟩ :=
    I1.laid (t' := tk) (a := hp.objs.size + 1) (o := exo (hp.objs.size + 1) C none) (h' := madeHp hp us C) made_kk hsz (exo_ok made_get)
  have l2 : hp.objs.size + 1 < dx := Nat.lt_of_lt_of_le (Heap.lt_size (made_get (us := us) (C := C))) dn
  have hnd : H1 dx = none := I1.hok.fresh (show hp.objs.size ≤ dx from Nat.le_of_lt (Nat.lt_of_le_of_lt hsz l2))
  let a := hp.objs.size + 1
  let Ha := L2.upd H1 a (exo a C none)
  have ea : Ha a = some (exo a C none) := upd_same
  have nd2 : Ha dx = none := by show L2.upd H1 a (exo a C none) dx = none; rw [upd_ne dne]; exact hnd
  have ltd : ∀ {b : Addr} {o : Obj}, (madeHp hp us C).get? b = some o → b ≠ dx := fun {b o} z => Nat.ne_of_lt (Nat.lt_of_lt_of_le (Heap.lt_size z) dn)
  have na : ∀ {b : Addr}, Ha b = none → b ≠ a := fun {b} n z => by rw [z, ea] at n; cases n
  have U : Un (frs X.stack) [] Ha (L2.upd (L2.upd Ha dx (exd dx fs)) a (exo a C (some dx))) (madeHp hp us C) h' := {
    keep := fun b o z n _ _ => k b o (na n) z
    slot := fun b o z n _ _ => ⟨o.slots, k b o (na n) z⟩
    free := fun b o z n _ => by rw [upd_ne (na n), upd_ne (ltd z)]; exact n
    there := fun b o z _ => by
      by_cases hb : b = a
      · exact ⟨_, by rw [hb]; exact hx⟩
      · exact ⟨o, k b o hb z⟩
    tups := fun b xs z => by rw [upd_ne (at_ne ea z exo_tup), upd_ne (ne_of_none z nd2)]; exact z
    frzs := fun b o v z => by rw [upd_ne (at_ne ea z exo_frz), upd_ne (ne_of_none z nd2)]; exact z
    tbls := fun b ps z => ⟨#[], by rw [upd_ne (at_ne ea z exo_tbl), upd_ne (ne_of_none z nd2), z]; simp⟩ }
  have hok2 : HOk X.prog X.w (L2.upd (L2.upd Ha dx (exd dx fs)) a (exo a C (some dx))) h' := fun b o z => by
    by_cases hb : b = a
    · subst hb
      rw [upd_same] at z
      cases z
      exact exo_ok hx
    · rw [upd_ne hb] at z
      by_cases hd : b = dx
      · subst hd
        rw [upd_same] at z
        cases z
        exact exd_ok hn rel
      · rw [upd_ne hd] at z
        refine (I2.hok b o z).stay (fun c v hc y => k c v ?_ y) (fun c hc => by rw [upd_ne (at_ne ea hc exo_own), upd_ne (ne_of_none hc nd2)]; exact hc) (fun c xs hc => by rw [upd_ne (at_ne ea hc exo_tup), upd_ne (ne_of_none hc nd2)]; exact hc)
        rcases hc with hc | hc
        · rw [hc]; exact hb
        · exact at_ne ea hc exo_own
  refine mk_end (d := dx) (fs := fs) (raises_own T.exC T.tyC) I1 hsz made_kk U hok2 rfl I1.bare upd_same (by rw [upd_ne dne, upd_same]) hnd ?_
  have e2 : L2.upd (del (L2.upd (L2.upd Ha dx (exd dx fs)) a (exo a C (some dx))) a) dx (.xd fs) = L2.upd H1 dx (.xd fs) := by
    funext b
    by_cases hd : b = dx
    · rw [hd, upd_same, upd_same]
    · rw [upd_ne hd, upd_ne hd]
      by_cases hb : b = a
      · rw [hb, del_same]; exact nE.symm
      · rw [del_ne hb, upd_ne hb, upd_ne hd]
        exact upd_ne hb
  rw [e2]
  exact q hnd
end
section
variable {X : Cx} {x : Str} {C fI : Addr} {n1 n2 : Str} {e : Expr} {es : List Expr} {ta : TA} {p pos : Pos}
theorem vals1s {us : List Value} {v : V} (r : Vals [v] us) : ∃ u, us = [u] ∧ RelV v u := by
  cases r with
  | cons r1 r2 => cases r2; exact ⟨_, rfl, r1⟩
theorem key_free {pins : List (Addr × Obj)} {σ : L2.St} {H : Hp} {hp : Heap} {g : Array GenState} {dr : Drawn} {tk : Nat} {os : OsState} (I : Inv X pins σ H ⟨hp, g, dr, tk, os⟩) : X.K.lookup (madeAt hp) = none := by
  cases z : X.K.lookup (madeAt hp) with
  | none => rfl
  | some o => exact absurd (Heap.lt_size (I.kIn _ _ z)) (by show ¬ hp.objs.size + 1 < hp.objs.size; omega)
/-- C(a, b), a value -/
def tMv2 (C : Addr) (n1 n2 : Str) (ta : TA) : TE := fun σ H Q => ta σ H fun vs H1 => ∃ v1 v2, vs = [v1, v2] ∧ ∀ a d, H1 a = none → H1 d = none → d ≠ a → Q (.ref a) (L2.upd (L2.upd H1 d (.xd [(n2, v2), (n1, v1)])) a (exo a C (some d)))
theorem pe_mk2 (T : Init2 X.prog X.K C fI n1 n2) (iC : PySem.W.findIn X.K (.ref C) "__init__" = some (some (.ref fI))) (tI : PySem.W.typeIn X.K (.ref fI) = some (.type "function")) (hr : Room 1 X.A) (gs : X.mg "super" = none) (bs : bootBuiltins "super" = some (.type "super")) (hg : Gl X x) (hm : X.mg x = some (.ref C)) (ha : PA X (e :: es) ta)
    (hdb : (x == ("__debug__" : Str)) = false := by decide) (he : starEach (e :: es) X.env = (false, eval e X.env) :: starEach es X.env := by rfl) (hpl : (backTo pos (starEach es X.env)).any (·.1) = false := by rfl) : PE X (.Call (.Name x p) (e :: es) [] pos) (tMv2 C n1 n2 ta) := by
  refine ⟨fun pins s σ H Q I h => ?_⟩
  obtain ⟨nm, q, N, bs2, bm, sn, sub, ab, col, dd, k0, k1, k2, k3, k5, hC, hbm⟩ := T.oex.cls
  refine wpAny_Call_Name_kw (ld_glob I hg hm ?_ hdb)
  refine PySem.W.callWith_K (h₀ := X.base) I.ok.mod.kin T.oex.kC (thn (ha.run pos pins s σ H _ I h) fun us s1 ⟨vs, H1, I1, r1, v1, v2, ev, q1⟩ => ⟨I1.kIn, ?_⟩) he hpl
  subst ev
  obtain ⟨u1, u2, rfl, ru1, ru2⟩ := vals2 r1
  show wpAny _ _ (call (.ref C) [u1, u2]) _ _ _
  obtain ⟨hp, g, dr, tk, os⟩ := s1
  have I2 : Inv X pins σ (L2.upd H1 (madeAt hp) (exo (madeAt hp) C none)) ⟨madeHp hp [u1, u2] C, g, dr, tk, os⟩ :=
    I1.laid (t' := tk) (a := madeAt hp) (o := exo (madeAt hp) C none) (h' := madeHp hp [u1, u2] C) made_kk (Nat.le_succ _) (exo_ok made_get)
  obtain ⟨mb, hb1, hb2⟩ := I2.mod.blt
  have hus : ([u1, u2] : List Value).length ≤ sizeLine := by show 2 ≤ sizeLine; decide
  refine wpAny_call (PySem.HandSPX.call_own F.excBase_ValueError (fun Y => PySem.HandSPX.refsVE_contains Y bm hbm) (I1.kIn _ _ hC) (PySem.W.looks_findIn I1.kIn iC) (fun self => PySem.W.bind_fn I1.kIn self tI) hus
    (run_init2 T I2.kIn I2.nolimit (I2.mod.glob.keeps I2.bk) (hb1.keeps I2.bk) gs ((hb2 "super" (by decide)).trans bs) (hr.make C [u1, u2] []).depth (key_free I1) made_get fun h' tk' dx t1 k dn dne hx hn => ?_))
  refine ⟨rfl, ?_⟩
  have rel : ∀ f, RelO (([(n2, v2), (n1, v1)] : List (Str × V)).lookup f) (if f = n2 then some u2 else if f = n1 then some u1 else none) := fun f => by
    rw [lookup_put, lookup_put]
    by_cases z : f = n2
    · rw [if_pos z, if_pos z]; exact ru2
    · rw [if_neg z, if_neg z]
      by_cases y : f = n1
      · rw [if_pos y, if_pos y]; exact ru1
      · rw [if_neg y, if_neg y]; exact True.intro
  obtain ⟨nE, hnd, J⟩ := made_val (fs := [(n2, v2), (n1, v1)]) (tk' := tk') I1 k dn dne hx hn rel
  exact ⟨.ref (madeAt hp), _, J, rfl, q1 _ dx nE hnd dne⟩
/-- C(a), a value -/
def tMv1 (C : Addr) (n1 : Str) (ta : TA) : TE := fun σ H Q => ta σ H fun vs H1 => ∃ v1, vs = [v1] ∧ ∀ a d, H1 a = none → H1 d = none → d ≠ a → Q (.ref a) (L2.upd (L2.upd H1 d (.xd [(n1, v1)])) a (exo a C (some d)))
theorem rel1 {n1 : Str} {v1 : V} {u1 : Value} (ru1 : RelV v1 u1) : ∀ f, RelO (([(n1, v1)] : List (Str × V)).lookup f) (if f = n1 then some u1 else none) := fun f => by
  rw [lookup_put]
  by_cases y : f = n1
  · rw [if_pos y, if_pos y]; exact ru1
  · rw [if_neg y, if_neg y]; exact True.intro
theorem pe_mk1 (T : Init1 X.prog X.K C fI n1) (iC : PySem.W.findIn X.K (.ref C) "__init__" = some (some (.ref fI))) (tI : PySem.W.typeIn X.K (.ref fI) = some (.type "function")) (hr : Room 1 X.A) (gs : X.mg "super" = none) (bs : bootBuiltins "super" = some (.type "super")) (hg : Gl X x) (hm : X.mg x = some (.ref C)) (ha : PA X (e :: es) ta)
    (hdb : (x == ("__debug__" : Str)) = false := by decide) (he : starEach (e :: es) X.env = (false, eval e X.env) :: starEach es X.env := by rfl) (hpl : (backTo pos (starEach es X.env)).any (·.1) = false := by rfl) : PE X (.Call (.Name x p) (e :: es) [] pos) (tMv1 C n1 ta) := by
  refine ⟨fun pins s σ H Q I h => ?_⟩
  obtain ⟨nm, q, N, bs2, bm, sn, sub, ab, col, dd, k0, k1, k2, k3, k5, hC, hbm⟩ := T.oex.cls
  refine wpAny_Call_Name_kw (ld_glob I hg hm ?_ hdb)
  refine PySem.W.callWith_K (h₀ := X.base) I.ok.mod.kin T.oex.kC (thn (ha.run pos pins s σ H _ I h) fun us s1 ⟨vs, H1, I1, r1, v1, ev, q1⟩ => ⟨I1.kIn, ?_⟩) he hpl
  subst ev
  obtain ⟨u1, rfl, ru1⟩ := vals1s r1
  show wpAny _ _ (call (.ref C) [u1]) _ _ _
  obtain ⟨hp, g, dr, tk, os⟩ := s1
  have I2 : Inv X pins σ (L2.upd H1 (madeAt hp) (exo (madeAt hp) C none)) ⟨madeHp hp [u1] C, g, dr, tk, os⟩ :=
    I1.laid (t' := tk) (a := madeAt hp) (o := exo (madeAt hp) C none) (h' := madeHp hp [u1] C) made_kk (Nat.le_succ _) (exo_ok made_get)
  obtain ⟨mb, hb1, hb2⟩ := I2.mod.blt
  have hus : ([u1] : List Value).length ≤ sizeLine := by show 1 ≤ sizeLine; decide
  refine wpAny_call (PySem.HandSPX.call_own F.excBase_ValueError (fun Y => PySem.HandSPX.refsVE_contains Y bm hbm) (I1.kIn _ _ hC) (PySem.W.looks_findIn I1.kIn iC) (fun self => PySem.W.bind_fn I1.kIn self tI) hus
    (run_init1 T I2.kIn I2.nolimit (I2.mod.glob.keeps I2.bk) (hb1.keeps I2.bk) gs ((hb2 "super" (by decide)).trans bs) (hr.make C [u1] []).depth (key_free I1) made_get fun h' tk' dx t1 k dn dne hx hn => ?_))
  refine ⟨rfl, ?_⟩
  obtain ⟨nE, hnd, J⟩ := made_val (fs := [(n1, v1)]) (tk' := tk') I1 k dn dne hx hn (rel1 ru1)
  exact ⟨.ref (madeAt hp), _, J, rfl, q1 _ dx nE hnd dne⟩
/-- raise C(a) -/
def tMk1 (C : Addr) (n1 : Str) (ta : TA) : L2.St → Hp → XK → Prop := fun σ H Q => ta σ H fun vs H1 => ∃ v1, vs = [v1] ∧ ∀ dx, H1 dx = none → Q (.ref C) (some dx) (L2.upd H1 dx (.xd [(n1, v1)]))
theorem pmk_ex1 (T : Init1 X.prog X.K C fI n1) (iC : PySem.W.findIn X.K (.ref C) "__init__" = some (some (.ref fI))) (tI : PySem.W.typeIn X.K (.ref fI) = some (.type "function")) (hr : Room 1 X.A) (gs : X.mg "super" = none) (bs : bootBuiltins "super" = some (.type "super")) (hg : Gl X x) (hm : X.mg x = some (.ref C)) (ha : PA X (e :: es) ta)
    (hdb : (x == ("__debug__" : Str)) = false := by decide) (he : starEach (e :: es) X.env = (false, eval e X.env) :: starEach es X.env := by rfl) (hpl : (backTo pos (starEach es X.env)).any (·.1) = false := by rfl) : PMk X (.Call (.Name x p) (e :: es) [] pos) (tMk1 C n1 ta) := by
  intro pins s σ H Q I h
  obtain ⟨nm, q, N, bs2, bm, sn, sub, ab, col, dd, k0, k1, k2, k3, k5, hC, hbm⟩ := T.oex.cls
  refine wpAny_Call_Name_kw (ld_glob I hg hm ?_ hdb)
  refine PySem.W.callWith_K (h₀ := X.base) I.ok.mod.kin T.oex.kC (thn (ha.run pos pins s σ H _ I h) fun us s1 ⟨vs, H1, I1, r1, v1, ev, q1⟩ => ⟨I1.kIn, ?_⟩) he hpl
  subst ev
  obtain ⟨u1, rfl, ru1⟩ := vals1s r1
  show wpAny _ _ (call (.ref C) [u1]) _ _ _
  obtain ⟨hp, g, dr, tk, os⟩ := s1
  have I2 : Inv X pins σ (L2.upd H1 (madeAt hp) (exo (madeAt hp) C none)) ⟨madeHp hp [u1] C, g, dr, tk, os⟩ :=
    I1.laid (t' := tk) (a := madeAt hp) (o := exo (madeAt hp) C none) (h' := madeHp hp [u1] C) made_kk (Nat.le_succ _) (exo_ok made_get)
  obtain ⟨mb, hb1, hb2⟩ := I2.mod.blt
  have hus : ([u1] : List Value).length ≤ sizeLine := by show 1 ≤ sizeLine; decide
  refine wpAny_call (PySem.HandSPX.call_own F.excBase_ValueError (fun Y => PySem.HandSPX.refsVE_contains Y bm hbm) (I1.kIn _ _ hC) (PySem.W.looks_findIn I1.kIn iC) (fun self => PySem.W.bind_fn I1.kIn self tI) hus
    (run_init1 T I2.kIn I2.nolimit (I2.mod.glob.keeps I2.bk) (hb1.keeps I2.bk) gs ((hb2 "super" (by decide)).trans bs) (hr.make C [u1] []).depth (key_free I1) made_get fun h' tk' dx t1 k dn dne hx hn => ?_))
  refine ⟨rfl, ?_⟩
  exact made_raise T.oex I1 k dn dne hx hn (rel1 ru1) fun hnd => q1 dx hnd
end
end Ev
set_option Elab.async false
set_option linter.all false
set_option maxRecDepth 100000
/-! X7: what they mean -/
namespace Ev
open PySem PySem.Spec PyProof.Rows L2
/-! fields by names -/
section
variable {C : Cf} {θ : List Addr} {H : Hp} {n : Str}
theorem RF.get : ∀ {fs : List (Str × D)} {vs : List (Str × V)} {u : D}, RF C θ H fs vs → fs.lookup n = some u → ∃ v, vs.lookup n = some v ∧ RV C θ H u v
  | _, _, _, .nil, h => by cases h
  | _, _, u, .cons (x := x) (d := d) (ds := ds) (v := v) (vs := vs) r t, h => by
    rw [List.lookup] at h ⊢
    cases q : n == x with
    | true => rw [q] at h; cases h; exact ⟨v, rfl, r⟩
    | false => rw [q] at h; exact RF.get t h
theorem RF.no : ∀ {fs : List (Str × D)} {vs : List (Str × V)}, RF C θ H fs vs → fs.lookup n = none → vs.lookup n = none
  | _, _, .nil, h => rfl
  | _, _, .cons (x := x) (d := d) (ds := ds) (v := v) (vs := vs) r t, h => by
    rw [List.lookup] at h ⊢
    cases q : n == x with
    | true => rw [q] at h; cases h
    | false => rw [q] at h; exact RF.no t h
end
/-- an error with one datum -/
structure Er1 (P : Program) (K : PySem.W.Frag) (mg : Str → Option Value) (fa : Nat → Option Addr) (c : Nat) (x n1 : Str) : Prop where
  at_ : fa c = some (adr fa c)
  m : mg x = some (.ref (adr fa c))
  ini : ∃ fI, Init1 P K (adr fa c) fI n1 ∧ PySem.W.findIn K (.ref (adr fa c)) "__init__" = some (some (.ref fI)) ∧ PySem.W.typeIn K (.ref fI) = some (.type "function")
  n1 : PySem.W.findIn K (.ref (adr fa c)) n1 = some none
  xf : XfC K (adr fa c)
  gs : mg "super" = none
section
variable {X : Cx} {W : WX} {fa : Nat → Option Addr} {c k : Nat} {x n n1 n2 : Str} {p pos pos2 apos : Pos} {o e : Expr} {es : List Expr} {ms : DA} {m : DE} {bm : List Value} {initId : String}
def eMk2 (c : Nat) (n1 n2 : Str) (as : DA) : DE := fun ρ G => (as ρ G).bind fun ds G => match ds with | [d1, d2] => .ok (.ref G.length) (G ++ [.exc c [(n2, d2), (n1, d1)]]) | _ => .stuck
def eMk1 (c : Nat) (n1 : Str) (as : DA) : DE := fun ρ G => (as ρ G).bind fun ds G => match ds with | [d1] => .ok (.ref G.length) (G ++ [.exc c [(n1, d1)]]) | _ => .stuck
def eMk0 (c : Nat) : DE := fun _ G => .ok (.ref G.length) (G ++ [.exc c []])
/-- the error's object and its dict are laid -/
theorem lay_exc {θ : List Addr} {H : Hp} {G : GH} {C a d : Addr} {fs : List (Str × D)} {vs : List (Str × V)} (R : Rel (cf X fa) θ H G) (hfa : fa c = some C) (ha : H a = none) (hd : H d = none) (hne : d ≠ a) (rf : RF (cf X fa) θ H fs vs) :
    Rel (cf X fa) (θ ++ [a]) (L2.upd (L2.upd H d (.xd vs)) a (exo a C (some d))) (G ++ [.exc c fs]) ∧ Step θ H (θ ++ [a]) (L2.upd (L2.upd H d (.xd vs)) a (exo a C (some d))) ∧ (θ ++ [a])[G.length]? = some a := by
  have R2 := R.out_upd (u := .xd vs) (R.notin hd) (none_tup hd) (none_frz hd) (none_xd hd)
  have ha2 : L2.upd H d (.xd vs) a = none := by rw [upd_ne (Ne.symm hne)]; exact ha
  have rf2 : RF (cf X fa) (θ ++ [a]) (L2.upd (L2.upd H d (.xd vs)) a (exo a C (some d))) fs vs := (rf.imp (fun _ _ => SqT.updN hd) (fun _ _ => SqK.updN hd) fun _ _ h => h).imp (fun _ _ => SqT.updN ha2) (fun _ _ => SqK.updN ha2) fun _ _ h => pre_app h
  obtain ⟨R3, s3⟩ := R2.alloc (o := .exc c fs) (u := exo a C (some d)) ha2 tf_exo ⟨C, hfa, .inr ⟨d, vs, upd_same, by rw [upd_ne hne, upd_same], rf2⟩⟩
  refine ⟨R3, (Step.newT hd).trans s3, ?_⟩
  rw [← R.len, List.getElem?_append_right (Nat.le_refl _), Nat.sub_self]; rfl
theorem se_mk2 (T : Er2 X.prog X.K X.mg fa c x n1 n2) (hr : Room k X.A) (hk : 1 ≤ k) (hg : Gl X x) (ha : SA X fa W (e :: es) ms) (hdb : (x == ("__debug__" : Str)) = false := by decide)
    (he : starEach (e :: es) X.env = (false, eval e X.env) :: starEach es X.env := by rfl) (hpl : (backTo pos (starEach es X.env)).any (·.1) = false := by rfl) :
    SE X fa W (.Call (.Name x p) (e :: es) [] pos) (eMk2 c n1 n2 ms) := by
  obtain ⟨fI, i1, i2, i3⟩ := T.ini
  refine wkE (pe_mk2 i1 i2 i3 (hr.mono hk) T.gs boot_super hg T.m ha hdb he hpl) fun σ H Q ⟨ρ, θ, G, R, e, h⟩ => ?_
  refine runA R e h fun ds G1 θ1 H1 vs st1 R1 e1 rl q => ?_
  cases rl with
  | nil => exact q.elim
  | @cons d1 _ v1 _ r1 rl =>
    cases rl with
    | nil => exact q.elim
    | @cons d2 _ v2 _ r2 rl =>
      cases rl with
      | cons _ _ => exact q.elim
      | nil =>
        refine ⟨v1, v2, rfl, fun a d ha hd hne => ?_⟩
        obtain ⟨R3, s3, hi⟩ := lay_exc (c := c) R1 T.at_ ha hd hne (.cons r2 (.cons r1 .nil))
        exact q _ _ s3 R3 (.ref a) (.ref hi)
theorem se_mk1 (T : Er1 X.prog X.K X.mg fa c x n1) (hr : Room k X.A) (hk : 1 ≤ k) (hg : Gl X x) (ha : SA X fa W (e :: es) ms) (hdb : (x == ("__debug__" : Str)) = false := by decide)
    (he : starEach (e :: es) X.env = (false, eval e X.env) :: starEach es X.env := by rfl) (hpl : (backTo pos (starEach es X.env)).any (·.1) = false := by rfl) :
    SE X fa W (.Call (.Name x p) (e :: es) [] pos) (eMk1 c n1 ms) := by
  obtain ⟨fI, i1, i2, i3⟩ := T.ini
  refine wkE (pe_mk1 i1 i2 i3 (hr.mono hk) T.gs boot_super hg T.m ha hdb he hpl) fun σ H Q ⟨ρ, θ, G, R, e, h⟩ => ?_
  refine runA R e h fun ds G1 θ1 H1 vs st1 R1 e1 rl q => ?_
  cases rl with
  | nil => exact q.elim
  | @cons d1 _ v1 _ r1 rl =>
    cases rl with
    | cons _ _ => exact q.elim
    | nil =>
      refine ⟨v1, rfl, fun a d ha hd hne => ?_⟩
      obtain ⟨R3, s3, hi⟩ := lay_exc (c := c) R1 T.at_ ha hd hne (.cons r1 .nil)
      exact q _ _ s3 R3 (.ref a) (.ref hi)
theorem se_mk0 (T : Er0 X.K X.mg fa c x bm) (F : ExcBaseFacts "ValueError" "ValueError.__new__" initId bm) (hg : Gl X x) (hdb : (x == ("__debug__" : Str)) = false := by decide) :
    SE X fa W (.Call (.Name x p) [] [] pos) (eMk0 c) := by
  refine wkE (pe_mk0 F T.q T.m T.k hg hdb) fun σ H Q ⟨ρ, θ, G, R, e, q⟩ a ha => ?_
  obtain ⟨R3, s3⟩ := R.alloc (o := .exc c []) (u := exo a (adr fa c) none) ha tf_exo ⟨_, T.at_, .inl ⟨rfl, upd_same⟩⟩
  refine q _ _ s3 R3 (.ref a) (.ref ?_)
  rw [← R.len, List.getElem?_append_right (Nat.le_refl _), Nat.sub_self]; rfl
/-- raise C(a) -/
def sRaise1 (c : Nat) (n1 : Str) (as : DA) : DS := fun ρ G => (as ρ G).bindS ρ fun ds G => match ds with | [d1] => .exc c [(n1, d1)] ρ G | _ => .stuck
theorem Er1.raise1 (T : Er1 X.prog X.K X.mg fa c x n1) (hc : X.calm = true) (tk : Takes X W) (hr : Room k X.A) (hk : 1 ≤ k) (hg : Gl X x) (ha : SA X fa W (e :: es) ms) (hdb : (x == ("__debug__" : Str)) = false := by decide)
    (he : starEach (e :: es) X.env = (false, eval e X.env) :: starEach es X.env := by rfl) (hpl : (backTo pos (starEach es X.env)).any (·.1) = false := by rfl) :
    SS X fa W (.Raise (some (.Call (.Name x p) (e :: es) [] pos)) none pos2) (sRaise1 c n1 ms) := by
  obtain ⟨fI, i1, i2, i3⟩ := T.ini
  refine wkS (ps_raise hc tk (pmk_ex1 i1 i2 i3 (hr.mono hk) T.gs boot_super hg T.m ha hdb he hpl)) fun Y σ H ⟨ρ, θ, G, R, e, h⟩ => ?_
  refine ⟨ρ, θ, G, R, e, (h.bind R e).mono fun ds G' θ' H' st R' q vs rl => ?_⟩
  cases rl with
  | nil => exact q.elim
  | @cons d1 _ v1 _ r1 rl =>
    cases rl with
    | cons _ _ => exact q.elim
    | nil =>
      refine ⟨v1, rfl, fun dx hn => ?_⟩
      refine q θ' _ σ (.ref (adr fa c)) (some dx) (Step.newT hn) (R'.out_upd (R'.notin hn) (none_tup hn) (none_frz hn) (none_xd hn)) ((e.step R st).updN hn) ⟨_, T.at_, rfl, .inr ⟨dx, _, rfl, upd_same, fun y u l => ?_, fun y l => ?_⟩⟩
      · obtain ⟨w, e1, e2⟩ := RF.get (RF.cons (x := n1) r1 .nil) l
        exact ⟨w, e1, e2.updN hn⟩
      · exact RF.no (RF.cons (C := cf X fa) (θ := θ') (H := H') (x := n1) r1 .nil) l
/-- x.f -/
def eXa (tab : Nat → Str → Bool) (n : Str) (m : DE) : DE := fun ρ G => (m ρ G).bind fun d G => match d with
  | .ref i => (match G[i]? with | some (.exc c fs) => if tab c n = true then (match fs.lookup n with | some u => .ok u G | none => .stuck) else .stuck | _ => .stuck)
  | _ => .stuck
theorem se_xa {tab : Nat → Str → Bool} (T : ∀ c n, tab c n = true → ∃ A, fa c = some A ∧ XfC X.K A ∧ PySem.W.findIn X.K (.ref A) n = some none) (ha : SE X fa W o m) (hb : attributeBase o n X.env (eval o X.env) = eval o X.env := by rfl) : SE X fa W (.Attribute o n pos) (eXa tab n m) := by
  refine wkE (pe_xa ha hb) fun σ H Q ⟨ρ, θ, G, R, e, h⟩ => ?_
  refine runE R e h fun d G1 θ1 H1 v st1 R1 e1 rv q => ?_
  cases d with
  | ref i =>
    cases rv with
    | @ref _ a hi =>
      simp only at q
      cases qG : G1[i]? with
      | none => rw [qG] at q; exact q.elim
      | some ob =>
        rw [qG] at q
        cases ob with
        | exc c fs =>
          simp only at q
          by_cases ht : tab c n = true
          · rw [if_pos ht] at q
            cases ql : fs.lookup n with
            | none => rw [ql] at q; exact q.elim
            | some u =>
              rw [ql] at q
              obtain ⟨A, hA, hx, hf⟩ := T c n ht
              obtain ⟨B, hB, hh⟩ := R1.obj i _ a qG hi
              have eAB : B = A := Option.some.inj (hB.symm.trans hA)
              subst eAB
              rcases hh with ⟨ef, _⟩ | ⟨dd, vs, e2, e3, rf⟩
              · subst ef; cases ql
              · obtain ⟨w, l2, rw2⟩ := rf.get ql
                exact ⟨a, B, dd, vs, w, rfl, e2, e3, hx, hf, l2, q θ1 H1 Step.refl R1 w rw2⟩
          · rw [if_neg ht] at q; exact q.elim
        | _ => exact q.elim
  | _ => exact q.elim
/-- x.class_name() -/
def cnT : Str := "class_name"
def eCn (nm : Nat → Option Str) (m : DE) : DE := fun ρ G => (m ρ G).bind fun d G => match d with
  | .ref i => (match G[i]? with | some (.exc c fs) => if fs.lookup cnT = none then (match nm c with | some z => .ok (.p (.str z)) G | none => .stuck) else .stuck | _ => .stuck)
  | _ => .stuck
/-- what is known of each class that has a name -/
def NmOk (K : PySem.W.Frag) (fa : Nat → Option Addr) (nm : Nat → Option Str) : Prop := ∀ c z, nm c = some z → ∃ A f, fa c = some A ∧ CnC K A z ∧ MethN K A f
theorem se_cn {pl : Sem Bool} {nm : Nat → Option Str} (T : NmOk X.K fa nm) (hr : Room k X.A) (ha : SE X fa W o m)
    (ht : eval (.Call (.Attribute o "class_name" apos) [] [] pos) X.env = (do
      let ov ← eval o X.env
      standAt apos.atName
      let (f, first) ← holding [ov] (getMethod ov "class_name" pl)
      callWith pos f first (backTo pos (starEach [] X.env)) (backToKw pos (keywordEach [] X.env))) := by rfl) : SE X fa W (.Call (.Attribute o "class_name" apos) [] [] pos) (eCn nm m) := by
  refine wkE (pe_cn (pl := pl) ha hr.depth ht) fun σ H Q ⟨ρ, θ, G, R, e, h⟩ => ?_
  refine runE R e h fun d G1 θ1 H1 v st1 R1 e1 rv q => ?_
  cases d with
  | ref i =>
    cases rv with
    | @ref _ a hi =>
      simp only at q
      cases qG : G1[i]? with
      | none => rw [qG] at q; exact q.elim
      | some ob =>
        rw [qG] at q
        cases ob with
        | exc c fs =>
          simp only at q
          by_cases hn : fs.lookup cnT = none
          · rw [if_pos hn] at q
            cases qz : nm c with
            | none => rw [qz] at q; exact q.elim
            | some z =>
              rw [qz] at q
              obtain ⟨A, f, hA, hc, hm⟩ := T c z qz
              obtain ⟨B, hB, hh⟩ := R1.obj i _ a qG hi
              have eAB : B = A := Option.some.inj (hB.symm.trans hA)
              subst eAB
              rcases hh with ⟨ef, e2⟩ | ⟨dd, vs, e2, e3, rf⟩
              · exact ⟨a, B, f, none, z, rfl, e2, .inl rfl, hm, hc, q θ1 H1 Step.refl R1 (.str z) (.p (.str z))⟩
              · exact ⟨a, B, f, some dd, z, rfl, e2, .inr ⟨dd, vs, rfl, e3, rf.no hn⟩, hm, hc, q θ1 H1 Step.refl R1 (.str z) (.p (.str z))⟩
          · rw [if_neg hn] at q; exact q.elim
        | _ => exact q.elim
  | _ => exact q.elim
/-- return err.class_name() in a suite -/
def sCn (nm : Nat → Option Str) (i : Nat) : Nat → List (Str × D) → DS := fun c fs ρ G => if i < ρ.length ∧ fs.lookup cnT = none then (match nm c with | some z => .rt (.p (.str z)) G | none => .stuck) else .stuck
theorem cn_rd {Cc : Cf} {nm : Nat → Option Str} {i : Nat} (T : NmOk Cc.K Cc.fa nm) : SuiteRd Cc (some i) (tsCn Cc.K i) (sCn nm i) := fun a cls dd c fs ρ θ G σ H Y R e rx na h => by
  obtain ⟨A, h1, h2, h3⟩ := rx
  unfold runCl sCn at h
  simp only at h
  by_cases ec : i < (ρ.set i none).length ∧ fs.lookup cnT = none
  · rw [if_pos ec] at h
    obtain ⟨hi0, hn⟩ := ec
    cases qz : nm c with
    | none => simp only [qz] at h; exact h.elim
    | some z =>
      simp only [qz] at h
      obtain ⟨B, f, hB, hc, hm⟩ := T c z qz
      have eAB : B = A := Option.some.inj (hB.symm.trans h1)
      subst eAB
      have hi : i < σ.length := by rw [← e.1]; simpa using hi0
      refine ⟨List.getElem?_set_self hi, B, f, z, h2, ?_, hm, hc, h θ H (.str z) Step.refl R (.p (.str z))⟩
      rcases h3 with ⟨_, e2⟩ | ⟨d, vs, ed, hd, _, hno⟩
      · exact .inl e2
      · exact .inr ⟨d, vs, ed, hd, hno _ hn⟩
  · rw [if_neg ec] at h; exact h.elim
/-- isinstance(x, C) of errors that are all of that sort -/
def fIsX (nm : Nat → Option Str) (c0 : Nat) : Fn := fun ds G => match ds with
  | [.ref i, .fn c1] => if c1 = c0 then (match G[i]? with | some (.exc c _) => if (nm c).isSome then .ok (.p (.bool true)) G else .stuck | _ => .stuck) else .stuck
  | [.ref i, .ty T] => if T = "ValueError" then (match G[i]? with | some (.exc c _) => if (nm c).isSome then .ok (.p (.bool true)) G else .stuck | _ => .stuck) else .stuck
  | _ => .stuck
theorem CnC.isC {K : PySem.W.Frag} {C : Addr} {z : Str} (c : CnC K C z) : IsC K C := ⟨c.hcl, c.hga, c.hgt, c.hsub, c.ha, c.hn, c.ht, c.hm⟩
def KindOk (K : PySem.W.Frag) (fa : Nat → Option Addr) (nm : Nat → Option Str) (S : Addr) : Prop := ∀ c z, nm c = some z → ∃ A, fa c = some A ∧ IsC K A ∧ PySem.W.kitOne K (.ref A) (.ref S) = some true ∧ PySem.W.kitOne K (.ref A) (.type "ValueError") = some true
theorem cl_isX {C : Cf} {nm : Nat → Option Str} {c0 : Nat} {S : Addr} (T : KindOk C.K C.fa nm S) (hS : C.fa c0 = some S) : ClD C (fIsX nm c0) (rIsX C.K) := by
  intro θ G H ds vs Q E R rv h
  have fin : ∀ (i : Nat) (a : Addr), θ[i]? = some a → PostG C θ H (match G[i]? with | some (.exc c _) => if (nm c).isSome then .ok (.p (.bool true)) G else .stuck | _ => .stuck) (fun d' _ θ' H' => ∀ u, RV C θ' H' d' u → Q u H') E →
      ∃ (A : Addr) (dd : Option Addr), H a = some (exo a A dd) ∧ (dd = none ∨ ∃ d vs, dd = some d ∧ H d = some (.xd vs)) ∧ IsC C.K A ∧ PySem.W.kitOne C.K (.ref A) (.ref S) = some true ∧ PySem.W.kitOne C.K (.ref A) (.type "ValueError") = some true ∧ Q (.bl true) H := fun i a hi h => by
    cases qG : G[i]? with
    | none => rw [qG] at h; exact h.elim
    | some ob =>
      rw [qG] at h
      cases ob with
      | exc c fs =>
        simp only at h
        cases qz : nm c with
        | none => rw [qz] at h; exact h.elim
        | some z =>
          rw [qz] at h
          simp only [Option.isSome_some, if_true] at h
          obtain ⟨A, hA, hi2, k1, k2⟩ := T c z qz
          obtain ⟨B, hB, hh⟩ := R.obj i _ a qG hi
          have eAB : B = A := Option.some.inj (hB.symm.trans hA)
          subst eAB
          have qq := h θ H Step.refl R (.bl true) (.p (.bl true))
          rcases hh with ⟨ef, e2⟩ | ⟨d, vs, e2, e3, rf⟩
          · exact ⟨B, none, e2, .inl rfl, hi2, k1, k2, qq⟩
          · exact ⟨B, some d, e2, .inr ⟨d, vs, rfl, e3⟩, hi2, k1, k2, qq⟩
      | _ => exact h.elim
  unfold fIsX at h
  split at h
  · rename_i i c1
    obtain ⟨v, w, e, r1, r2⟩ := two_val rv
    subst e
    by_cases e1 : c1 = c0
    · rw [if_pos e1] at h
      subst e1
      cases r1 with
      | @ref _ a hi =>
        cases r2 with
        | @fn _ b hb =>
          have eb : b = S := Option.some.inj (hb.symm.trans hS)
          subst eb
          obtain ⟨A, dd, h1, h2, h3, k1, k2, q⟩ := fin i a hi h
          exact ⟨a, A, dd, .ref b, .ref b, true, rfl, h1, h2, h3, fun u hu => hu, k1, q⟩
    · rw [if_neg e1] at h; exact h.elim
  · rename_i i T0
    obtain ⟨v, w, e, r1, r2⟩ := two_val rv
    subst e
    by_cases e1 : T0 = "ValueError"
    · rw [if_pos e1] at h
      subst e1
      cases r1 with
      | @ref _ a hi =>
        cases r2
        obtain ⟨A, dd, h1, h2, h3, k1, k2, q⟩ := fin i a hi h
        exact ⟨a, A, dd, .ty "ValueError", .type "ValueError", true, rfl, h1, h2, h3, fun u hu => hu, k2, q⟩
    · rw [if_neg e1] at h; exact h.elim
  · exact h.elim
end
end Ev
set_option Elab.async false
set_option linter.all false
set_option maxRecDepth 100000
/-! X8: a, b = a list -/
namespace Ev
open PySem PySem.Spec PyProof.Rows L2
section
variable {prog : Program} {w : World} {A : Around} {E : Value → Shared → Prop} {s : Shared}
theorem draw_lst {it t : Addr} {items : Array Value} (hne : t ≠ it) : ∀ (n i : Nat) (s : Shared) (Q : List Value → Shared → Prop), s.heap.IsListIter it t i → s.heap.IsList t items → i + n ≤ items.size →
    (∀ h', h'.IsListIter it t (i + n) → Heap.SameBut it s.heap h' → Q ((items.toList.drop i).take n) { s with heap := h' }) → wpAny (model prog w) A (draw (.ref it) n) Q E s
  | 0, i, s, Q, hit, _, _, hQ => by
    show wpAny _ _ (pure []) Q E s
    exact wpAny_pure (by simpa using hQ s.heap hit (Heap.SameBut.refl ..))
  | n + 1, i, s, Q, hit, ht, hle, hQ => by
    have hlt : i < items.size := by omega
    show wpAny _ _ (pyNext (.ref it) >>= _) Q E s
    refine wpAny_bind (wpAny_pyNext_list_item hit ht (x := items[i]) (by simp [hlt]) fun h₁ hit₁ hs₁ => ?_)
    refine wpAny_bind (wpAny_holding (draw_lst hne n (i + 1) _ _ hit₁ (ht.extBut hs₁.extBut hne) (by omega) fun h₂ hit₂ hs₂ => wpAny_pure ?_))
    have hd : items.toList.drop i = items[i] :: items.toList.drop (i + 1) := by simp [List.drop_eq_getElem_cons, hlt]
    have := hQ h₂ (by rw [show i + (n + 1) = i + 1 + n by omega]; exact hit₂) (hs₁.trans hs₂)
    rw [hd, List.take_succ_cons] at this
    exact this
theorem items_lst {t : Addr} {items : Array Value} {Q : List Value → Shared → Prop} (hh : A.handled = none) (ht : s.heap.IsList t items)
    (hQ : ∀ h', Heap.ExtBut s.heap.objs.size s.heap h' → Q items.toList { s with heap := h' }) : wpAny (model prog w) A (unpackItems (.ref t) items.size none) Q E s := by
  have hlt : t ≠ s.heap.objs.size := by obtain ⟨o, ho, _⟩ := ht; exact Nat.ne_of_lt (Heap.lt_size ho)
  unfold unpackItems
  refine wpAny_bind ?_
  · unfold notIterableAtAll
    refine wpAny_bind (wpAny_specialOf ht.typeIs slot_list_iter.lookup ?_)
    refine wpAny_pure ?_
    simp only [Bool.false_eq_true, if_false]
    refine wpAny_bind (wpAny_holding (wpAny_pyIter_list ht ?_))
    refine wpAny_bind (wpAny_holding (draw_lst hlt items.size 0 _ _ ⟨_, Heap.get?_push_size _ rfl, rfl, rfl⟩ (ht.push _) (by omega) fun h₁ hit₁ hs₁ => ?_))
    have hall : List.take items.size (List.drop 0 items.toList) = items.toList := by
      rw [List.drop_zero]; exact List.take_of_length_le (by simp)
    rw [hall]
    rw [if_neg (by simp)]
    have ht₁ : h₁.IsList t items := (ht.push _).extBut hs₁.extBut hlt
    refine wpAny_bind (wpAny_holding (wpAny_pyNext_list_end hh hit₁ ht₁ (by simp) fun h₂ he₂ => ?_))
    simp only [Option.isSome_none, Bool.false_eq_true, if_false]
    refine wpAny_pure (hQ h₂ fun b o hb e => he₂ b o hb (hs₁.extBut b o hb (Heap.get?_push_of_some _ e)))
theorem assign_lst {env : Env} {elts : List Expr} {x1} {pos : Pos} {t : Addr} {items : Array Value} {Q : Unit → Shared → Prop} (hh : A.handled = none) (ht : s.heap.IsList t items)
    (hn : (assignEach elts env).length = items.size) (hstar : (assignEach elts env).findIdx? (·.1) = none)
    (h : ∀ h', Heap.ExtBut s.heap.objs.size s.heap h' → wpAny (model prog w) A (assignInOrder ((assignEach elts env).map (·.2)) items.toList) Q E { s with heap := h' }) :
    wpAny (model prog w) A (assign (.Tuple elts x1 pos) env (.ref t)) Q E s := by
  rw [arm_assign_Tuple]
  refine wpAny_bind (wpAny_standAt ?_)
  unfold unpack
  rw [hn, hstar]
  exact wpAny_bind (wpAny_holding (items_lst hh ht h))
end
section
variable {X : Cx} {fa : Nat → Option Addr} {pos : Pos}
/-- (a, b, ..) = a list of that length -/
def gLstT (K : PySem.W.Frag) (n : Nat) (t : TGs) : TG := fun v σ H Q => ∃ a xs, v = .ref a ∧ SqL K H a xs ∧ xs.length = n ∧ t xs σ H Q
theorem pg_lst {es : List Expr} {k : Nat} {t : TGs} {n : Nat} (hc : X.calm = true) (h : PGs X es t)
    (hn : (assignEach es X.env).length = n := by rfl) (hst : (assignEach es X.env).findIdx? (·.1) = none := by rfl) : PG X (.Tuple es k pos) (gLstT X.K n t) := by
  refine ⟨fun pins s σ H v u Q I r hw => ?_⟩
  obtain ⟨a, xs, e1, hq, hl, hw⟩ := hw
  subst e1
  cases r
  obtain ⟨its, rv, ht, hz⟩ := I.list hq
  have hL : s.heap.IsList a its.toArray := by
    obtain ⟨o, n', e, hc', _, hd⟩ := ht
    exact ⟨o, e, hc', n', hd⟩
  refine assign_lst (I.ok.hd hc) hL (by simp [hn, ← hl, rv.length]) hst fun h' hx => ?_
  have I1 : Inv X pins σ H { s with heap := h' } := I.kept (t' := s.toks) fun b o e => hx b o (Nat.ne_of_lt (Heap.lt_size e)) e
  exact h.run pins _ σ H xs _ Q I1 (by simpa using rv) hw
def gTpL (n : Nat) (r : MGs) : MG := fun d ρ G => match d with
  | .ref i => (match lstAt G i with | some ds => if ds.length = n then r ds ρ G else none | none => none)
  | _ => none
theorem sg_lst {es : List Expr} {k : Nat} {r : MGs} {n : Nat} {ws : List Nat} (hc : X.calm = true) (h : SGs X fa ws es r)
    (hn : (assignEach es X.env).length = n := by rfl) (hst : (assignEach es X.env).findIdx? (·.1) = none := by rfl) : SG X fa ws (.Tuple es k pos) (gTpL n r) := by
  refine wkG (pg_lst (n := n) hc h hn hst) fun v σ H Q ⟨d, ρ, θ, G, R, e, r, h⟩ => ?_
  unfold gTpL at h
  cases d with
  | ref i =>
    cases r with
    | @ref _ a hi =>
      simp only at h
      cases q : lstAt G i with
      | none => rw [q] at h; exact h.elim
      | some ds =>
        rw [q] at h
        simp only at h
        obtain ⟨xs, ex, rl⟩ := lstAt_rel R hi q
        by_cases hl : ds.length = n
        · rw [if_pos hl] at h
          exact ⟨a, xs, rfl, SqL.of ex, rl.length.symm.trans hl, ds, ρ, θ, G, R, e, rl, h⟩
        · rw [if_neg hl] at h; exact h.elim
  | _ => exact h.elim
end
end Ev
set_option Elab.async false
set_option linter.all false
set_option maxRecDepth 100000
/-! X9: a module's errors by their names, for X7 -/
namespace Ev
open PySem PySem.Spec PyProof.Rows L2
theorem er1_mk {P : Program} {K : PySem.W.Frag} {h : Heap} {mg : Str → Option Value} {names : List Str} {c : Nat} {x n1 : Str} (X : K.In h) (G : h.Ns mainGlobals mg) (hx : names[c]? = some x)
    {C fI : Addr} {oc : Value} {od : Option Addr} {osl : Array (Option Value)} {qual : Str} {a1 a2 : Pos} {dV kV doc pm ct : Value} {an : Option Addr} {cda cc : Addr} {p1 p2 p3 p4 p5 p6 p7 p8 p9 p10 p11 : Pos} {cl : Value} {cld : Option Addr} {csl : Array (Option Value)}
    {ccl : Value} {cdd : Option Addr} {vs : Array Value} {ccs : Array (Option Value)} {file : Str} {tf : Tok} {nm q : Str} {N : Addr} {bs bm : List Value} {sn : List Str} {sub : List Value} {ab : Bool} {col : Option Bool} {dd : Option Addr} {k0 k1 k2 k3 k5 : Option Value}
    (aC : PySem.W.nsIn K mainGlobals x = some (some (.ref C)))
    (cls : K.lookup C = some (excClassObj nm q C N bs bm true sn sub ab col dd k0 k1 k2 k3 k5 "ValueError.__new__"))
    (iC : PySem.W.findIn K (.ref C) "__init__" = some (some (.ref fI))) (tI : PySem.W.typeIn K (.ref fI) = some (.type "function"))
    (l : K.lookup fI = some ⟨oc, od, .func (PySem.W.fnX "__init__" qual { posonlyargs := [], args := [⟨"self", none, a1⟩, ⟨n1, none, a2⟩], vararg := none, kwonlyargs := [], kw_defaults := [], kwarg := none, defaults := [] } (body1 n1 p1 p2 p3 p4 p5 p6 p7 p8 p9 p10 p11) (scope1 n1) [("__class__", cc)] dV kV doc pm an (.ref cda) ct), osl⟩)
    (cd : PySem.W.codeIn K (.ref cda) qual = true) (lc : K.lookup cc = some ⟨cl, cld, .cell (some (.ref C)), csl⟩) (ld : K.lookup cda = some ⟨ccl, cdd, .fields vs, ccs⟩)
    (hb : ∀ u v1 : Value, bindArgs (PySem.W.fnX "__init__" qual { posonlyargs := [], args := [⟨"self", none, a1⟩, ⟨n1, none, a2⟩], vararg := none, kwonlyargs := [], kw_defaults := [], kwarg := none, defaults := [] } (body1 n1 p1 p2 p3 p4 p5 p6 p7 p8 p9 p10 p11) (scope1 n1) [("__class__", cc)] dV kV doc pm an (.ref cda) ct) ⟨[u, v1], []⟩ = pure [(Str.ofString "self", u), (n1, v1)])
    (hs : ∀ l : Addr, SupCall1 (callEnv (PySem.W.fnX "__init__" qual { posonlyargs := [], args := [⟨"self", none, a1⟩, ⟨n1, none, a2⟩], vararg := none, kwonlyargs := [], kw_defaults := [], kwarg := none, defaults := [] } (body1 n1 p1 p2 p3 p4 p5 p6 p7 p8 p9 p10 p11) (scope1 n1) [("__class__", cc)] dV kV doc pm an (.ref cda) ct) l fI) n1 p1 p2 p3 p4 p5 p6)
    (vf : vs[2]? = some (.str file tf)) (hf : ((P.main.file : Str) == file) = true) (bmOk : PySem.HandSPX.refsVE bm = true)
    (sa : PySem.W.findIn K (.ref C) "__setattr__" = some (some (.builtin "object.__setattr__"))) (exC : PySem.W.subIn K (.ref C) (.type "BaseException") = some true) (tyC : PySem.W.typeIn K (.ref C) = some (.type "type")) (kC : PySem.W.keepIn K (.ref C) = true)
    (mro : PySem.W.mroIn K C (.ref C) = some true) (sup : PySem.W.ks_superIn K C C "__init__" = some (some (.builtin "ValueError.__init__"))) (ve : PySem.W.subIn K (.ref C) (.type "ValueError") = some true) (any : PySem.W.nsIn K cStatics "thirdparty.any" = some none)
    (f1 : PySem.W.findIn K (.ref C) n1 = some none) (ga : PySem.W.findIn K (.ref C) "__getattribute__" = some (some (.builtin "BaseException.__getattribute__"))) (gg : PySem.W.findIn K (.ref C) "__getattr__" = some none) (hdC : PySem.W.hasDictIn K C = true)
    (zs : PySem.W.nsIn K mainGlobals "super" = some none) (top : (P.main.scope.names.lookup ("super" : Str)).isSome = false)
    (ls : (scope1 n1).names.lookup (Str.ofString "super") = some .globalImplicit) (lk : (scope1 n1).names.lookup (Str.ofString "__class__") = some .free) (s1 : n1 ≠ "self") (d1 : (n1 == ("__debug__" : Str)) = false) :
    Er1 P K mg (faOf K names) c x n1 := by
  have e := adr_at hx aC
  have T : Init1 P K C fI n1 := ⟨⟨oc, od, osl, qual, a1, a2, dV, kV, doc, pm, ct, an, cda, cc, p1, p2, p3, p4, p5, p6, p7, p8, p9, p10, p11, l, cd, hb, hs, ⟨cl, cld, csl, lc⟩, ccl, cdd, vs, ccs, file, tf, ld, vf, hf⟩,
    ⟨⟨nm, q, N, bs, bm, sn, sub, ab, col, dd, k0, k1, k2, k3, k5, cls, bmOk⟩, sa, exC, tyC, kC⟩, mro, sup, ve, any, top, f1, ls, lk, s1, d1⟩
  refine ⟨?_, ?_, ?_, ?_, ?_, PySem.W.mg_none_of X G zs⟩ <;> rw [e]
  · exact faOf_at hx aC
  · exact PySem.W.mg_of X G aC
  · exact ⟨fI, T, iC, tI⟩
  · exact f1
  · exact ⟨ga, gg, exC, hdC⟩
theorem nm_mk {K : PySem.W.Frag} {names : List Str} {c cs : Nat} {x z s : Str} {C S f : Addr} {nm q : Str} {N : Addr} {bs bm : List Value} {sn : List Str} {sub : List Value} {ab : Bool} {col : Option Bool} {dd : Option Addr} {k0 k1 k3 k5 : Option Value} {tz : Tok} {newId : String} (hx : names[c]? = some x) (hs : names[cs]? = some s)
    {oc : Value} {od : Option Addr} {osl : Array (Option Value)} {nmF qual : Str} {a1 : Pos} {dV kV doc pm ct : Value} {an : Option Addr} {cda : Addr} {p1 p2 p3 p4 p5 p6 : Pos}
    (aC : PySem.W.nsIn K mainGlobals x = some (some (.ref C))) (aS : PySem.W.nsIn K mainGlobals s = some (some (.ref S)))
    (cls : K.lookup C = some (excClassObj nm q C N bs bm true sn sub ab col dd k0 k1 (some (.str z tz)) k3 k5 newId))
    (ga : PySem.W.findIn K (.ref C) "__getattribute__" = some (some (.builtin "BaseException.__getattribute__"))) (gg : PySem.W.findIn K (.ref C) "__getattr__" = some none) (exC : PySem.W.subIn K (.ref C) (.type "BaseException") = some true)
    (ha : PySem.W.findIn K (.ref C) "__class__" = some (some (.builtin "object.__class__"))) (hn : PySem.W.specialIn K (.builtin "object.__class__") "__get__" = some (some (.builtin "getset_descriptor.__get__"))) (ht : PySem.W.takesIn K (.builtin "object.__class__") = some true) (hm : PySem.W.mroIn K C (.type "object") = some true)
    (any : PySem.W.nsIn K cStatics "thirdparty.any" = some none) (tyC : PySem.W.typeIn K (.ref C) = some (.type "type")) (fn : PySem.W.findCls K (.ref C) (.type "type") "__name__" = some (.get (.builtin "getset_descriptor.__get__") (.builtin "type.__name__") (.ref C) (.type "type"))) (sz : z.length ≤ sizeLine)
    (me : PySem.W.findIn K (.ref C) "class_name" = some (some (.ref f))) (tF : PySem.W.typeIn K (.ref f) = some (.type "function")) (kF : PySem.W.keepIn K (.ref f) = true)
    (lF : K.lookup f = some ⟨oc, od, .func (PySem.W.fnX nmF qual (cnArgs a1) (cnBody p1 p2 p3 p4 p5 p6) cnScope [] dV kV doc pm an (.ref cda) ct), osl⟩) (cF : PySem.W.codeIn K (.ref cda) qual = true)
    (hb : ∀ u : Value, bindArgs (PySem.W.fnX nmF qual (cnArgs a1) (cnBody p1 p2 p3 p4 p5 p6) cnScope [] dV kV doc pm an (.ref cda) ct) ⟨[u], []⟩ = pure [(Str.ofString "self", u)])
    (ks : PySem.W.kitOne K (.ref C) (.ref S) = some true) (kv : PySem.W.kitOne K (.ref C) (.type "ValueError") = some true) :
    CnC K (adr (faOf K names) c) z ∧ (∃ f, MethN K (adr (faOf K names) c) f) ∧ PySem.W.kitOne K (.ref (adr (faOf K names) c)) (.ref (adr (faOf K names) cs)) = some true ∧ PySem.W.kitOne K (.ref (adr (faOf K names) c)) (.type "ValueError") = some true := by
  rw [adr_at hx aC, adr_at hs aS]
  have hcl : (PySem.W.clsIn K C).isSome = true := by unfold PySem.W.clsIn; rw [cls]; rfl
  have rd : PySem.W.readsIn K C (.type "type") = true := by
    unfold PySem.W.readsIn
    rw [any, tyC]
    have e1 : PySem.W.findIn K (.type "type") "__getattribute__" = some (some (.builtin "type.__getattribute__")) := PySem.W.type_tga
    rw [e1]
    have e2 : PySem.W.subIn K (.type "type") (.type "type") = some true := by show PySem.W.subIn K _ _ = _; rfl
    rw [e2]
    rfl
  exact ⟨⟨hcl, ga, gg, exC, ha, hn, ht, hm, rd, fn, tyC, ⟨_, tz, cls, rfl⟩, sz⟩, ⟨f, me, beq_iff_eq.mpr tF, kF, ⟨oc, od, osl, nmF, qual, a1, dV, kV, doc, pm, ct, an, cda, p1, p2, p3, p4, p5, p6, lF, cF, hb⟩⟩, ks, kv⟩
end Ev
set_option Elab.async false
set_option linter.all false
set_option maxRecDepth 100000
/-! what the law's text means, printed by gen00.py -/
namespace K00
open PySem PySem.Spec PyProof.Rows L2 Ev
def ar : Nat → Nat
  | 0 => 1
  | 1 => 2
  | 2 => 2
  | 3 => 2
  | 4 => 2
  | 5 => 2
  | 6 => 1
  | _ => 1
abbrev f1_BadText : Str := "line"
abbrev f2_BadText : Str := "column"
abbrev f1_BadTree : Str := "where"
abbrev f2_BadTree : Str := "fault"
abbrev f1_BadLog : Str := "number"
abbrev f2_BadLog : Str := "fault"
abbrev f1_NoCommand : Str := "line"
abbrev f1_TooLarge : Str := "what"
abbrev f2_TooLarge : Str := "limit"
def nmOf : Nat → Option Str
  | 7 => some "SoonError"
  | 8 => some "BadText"
  | 9 => some "BadTree"
  | 10 => some "BadLog"
  | 11 => some "NoCommand"
  | 12 => some "Nothing"
  | 13 => some "TooLarge"
  | _ => none
def tabL : List (Nat × Str) := [(8, "line"), (8, "column"), (9, "where"), (9, "fault"), (10, "number"), (10, "fault"), (11, "line"), (13, "what"), (13, "limit")]
def tabF : Nat → Str → Bool := fun c n => decide ((c, n) ∈ tabL)
def tk_SoonError : Nat → Option Bool
  | 7 => some true
  | 8 => some true
  | 9 => some true
  | 10 => some true
  | 11 => some true
  | 12 => some true
  | 13 => some true
  | _ => none
def tk_BadText : Nat → Option Bool
  | 7 => some false
  | 8 => some true
  | 9 => some false
  | 10 => some false
  | 11 => some false
  | 12 => some false
  | 13 => some false
  | _ => none
def tk_BadTree : Nat → Option Bool
  | 7 => some false
  | 8 => some false
  | 9 => some true
  | 10 => some false
  | 11 => some false
  | 12 => some false
  | 13 => some false
  | _ => none
def tk_BadLog : Nat → Option Bool
  | 7 => some false
  | 8 => some false
  | 9 => some false
  | 10 => some true
  | 11 => some false
  | 12 => some false
  | 13 => some false
  | _ => none
def tk_NoCommand : Nat → Option Bool
  | 7 => some false
  | 8 => some false
  | 9 => some false
  | 10 => some false
  | 11 => some true
  | 12 => some false
  | 13 => some false
  | _ => none
def tk_Nothing : Nat → Option Bool
  | 7 => some false
  | 8 => some false
  | 9 => some false
  | 10 => some false
  | 11 => some false
  | 12 => some true
  | 13 => some false
  | _ => none
def tk_TooLarge : Nat → Option Bool
  | 7 => some false
  | 8 => some false
  | 9 => some false
  | 10 => some false
  | 11 => some false
  | 12 => some false
  | 13 => some true
  | _ => none
def b__law_bag (F : Nat → Fn) : DS := sRet (eLst (aCons (eC (.p (.int 0))) (aCons (eC (.p (.int 1234567891))) (aCons (eC (.p (.int 0))) (aCons (eLc (iAny (eSl (eVar 0) (oNo) (oSome (eC (.p (.int 63)))))) (gNm 1) (tTrue) (eFn fAbs (aCons (eVar 1) (aNil))) [1]) (aNil))))))
def b__law_take (F : Nat → Fn) : DS := sSeq (sIf (tCmp cEq (eBin oIxA (eVar 0) (eC (.p (.int 0)))) (eC (.p (.int 0)))) (sSeq (sSet 2 (eBin oIxA (eBin oAdd (eSl (eBin oIxA (eVar 0) (eC (.p (.int 3)))) (oSome (eBin oIxA (eVar 0) (eC (.p (.int 2))))) (oNo)) (eLst (aCons (eC (.p (.int 0))) (aNil)))) (eC (.p (.int 0))))) (sSeq (sAugI (eVar 0) (eC (.p (.int 2))) (eC (.p (.int 1))) (· + ·)) (sSeq (sIf (tCmp cGe (eVar 2) (eBin oPow (eC (.p (.int 10))) (eC (.p (.int 18))))) (sStore (eVar 0) (eC (.p (.int 0))) (eVar 2) setA) (sPass)) (sSeq (sSet 3 (eBin oAdd (eBin oAdd (eBin oMul (eBin oIxA (eVar 0) (eC (.p (.int 1)))) (eC (.p (.int 48271)))) (eBin oMod (eFn fInt (aCons (eVar 2) (aNil))) (eC (.p (.int 2147483647))))) (eBin oMul (eC (.p (.int 7919))) (eBin oIxA (eVar 0) (eC (.p (.int 2))))))) (sStore (eVar 0) (eC (.p (.int 1))) (eBin oMod (eFn fInt (aCons (eVar 3) (aNil))) (eC (.p (.int 2147483647)))) setA))))) (sPass)) (sSeq (sIf (tCmp cGt (eBin oIxA (eVar 0) (eC (.p (.int 0)))) (eC (.p (.int 0)))) (sSeq (sSet 4 (eBin oMod (eFn fInt (aCons (eBin oIxA (eVar 0) (eC (.p (.int 0)))) (aNil))) (eVar 1))) (sSeq (sStore (eVar 0) (eC (.p (.int 0))) (eBin oFdiv (eFn fInt (aCons (eBin oIxA (eVar 0) (eC (.p (.int 0)))) (aNil))) (eVar 1)) setA) (sRet (eVar 4)))) (sPass)) (sSeq (sSet 5 (eBin oMod (eFn fInt (aCons (eBin oMul (eBin oAdd (eBin oIxA (eVar 0) (eC (.p (.int 1)))) (eC (.p (.int 1)))) (eC (.p (.int 39373)))) (aNil))) (eC (.p (.int 1000000007))))) (sSeq (sSet 6 (eBin oMod (eFn fInt (aCons (eBin oMul (eBin oMod (eFn fInt (aCons (eBin oMul (eVar 5) (eVar 5)) (aNil))) (eC (.p (.int 998244353)))) (eC (.p (.int 30011)))) (aNil))) (eC (.p (.int 998244353))))) (sRet (eBin oMod (eFn fInt (aCons (eBin oFdiv (eVar 6) (eC (.p (.int 7)))) (aNil))) (eVar 1))))))
def b__law_some (F : Nat → Fn) : DS := sRet (eBin oIxA (eVar 1) (eCall 2 (F 1) (aCons (eVar 0) (aCons (eFn fLen (aCons (eVar 1) (aNil))) (aNil)))))
def b__law_alike (F : Nat → Fn) : DS := sRet (eAndD (eOfT (tCmp cEq (eFn fRepr (aCons (eVar 0) (aNil))) (eFn fRepr (aCons (eVar 1) (aNil))))) (eOfT (tCmp cEq (eVar 0) (eVar 1))))
def b__law_error (F : Nat → Fn) : DS := sSeq (sAsg (eVar 1) (gTpL 2 (gsCons (gNm 2) (gsCons (gNm 3) (gsNil))))) (sSeq (sIf (tCmp cEq (eVar 0) (eC (.p (.int 0)))) (sSeq (sSet 4 (eMk2 8 f1_BadText f2_BadText (aCons (eVar 2) (aCons (eVar 3) (aNil))))) (sRet (eTup (aCons (eVar 4) (aCons (eTup (aCons (eXa tabF "line" (eVar 4)) (aCons (eXa tabF "column" (eVar 4)) (aNil)))) (aCons (eTup (aCons (eVar 2) (aCons (eVar 3) (aNil)))) (aCons (eC (.p (.str "BadText"))) (aNil)))))))) (sPass)) (sSeq (sIf (tCmp cEq (eVar 0) (eC (.p (.int 1)))) (sSeq (sSet 4 (eMk2 9 f1_BadTree f2_BadTree (aCons (eVar 2) (aCons (eVar 3) (aNil))))) (sRet (eTup (aCons (eVar 4) (aCons (eTup (aCons (eXa tabF "where" (eVar 4)) (aCons (eXa tabF "fault" (eVar 4)) (aNil)))) (aCons (eTup (aCons (eVar 2) (aCons (eVar 3) (aNil)))) (aCons (eC (.p (.str "BadTree"))) (aNil)))))))) (sPass)) (sSeq (sIf (tCmp cEq (eVar 0) (eC (.p (.int 2)))) (sSeq (sSet 4 (eMk2 10 f1_BadLog f2_BadLog (aCons (eVar 2) (aCons (eVar 3) (aNil))))) (sRet (eTup (aCons (eVar 4) (aCons (eTup (aCons (eXa tabF "number" (eVar 4)) (aCons (eXa tabF "fault" (eVar 4)) (aNil)))) (aCons (eTup (aCons (eVar 2) (aCons (eVar 3) (aNil)))) (aCons (eC (.p (.str "BadLog"))) (aNil)))))))) (sPass)) (sSeq (sIf (tCmp cEq (eVar 0) (eC (.p (.int 3)))) (sSeq (sSet 4 (eMk1 11 f1_NoCommand (aCons (eVar 2) (aNil)))) (sRet (eTup (aCons (eVar 4) (aCons (eTup (aCons (eXa tabF "line" (eVar 4)) (aNil))) (aCons (eTup (aCons (eVar 2) (aNil))) (aCons (eC (.p (.str "NoCommand"))) (aNil)))))))) (sPass)) (sSeq (sIf (tCmp cEq (eVar 0) (eC (.p (.int 4)))) (sSeq (sSet 4 (eMk2 13 f1_TooLarge f2_TooLarge (aCons (eVar 2) (aCons (eVar 3) (aNil))))) (sRet (eTup (aCons (eVar 4) (aCons (eTup (aCons (eXa tabF "what" (eVar 4)) (aCons (eXa tabF "limit" (eVar 4)) (aNil)))) (aCons (eTup (aCons (eVar 2) (aCons (eVar 3) (aNil)))) (aCons (eC (.p (.str "TooLarge"))) (aNil)))))))) (sPass)) (sRet (eTup (aCons (eIfD (tCmp cEq (eVar 0) (eC (.p (.int 5)))) (eMk0 12) (eMk0 7)) (aCons (eTup (aNil)) (aCons (eTup (aNil)) (aCons (eIfD (tCmp cEq (eVar 0) (eC (.p (.int 5)))) (eC (.p (.str "Nothing"))) (eC (.p (.str "SoonError")))) (aNil))))))))))))
def b__law_raised (F : Nat → Fn) : DS := sSeq (sAsg (eVar 1) (gTpL 2 (gsCons (gNm 2) (gsCons (gNm 3) (gsNil))))) (sTry (sSeq (sIf (tCmp cEq (eVar 0) (eC (.p (.int 0)))) (sRaise2 8 f1_BadText f2_BadText (aCons (eVar 2) (aCons (eVar 3) (aNil)))) (sPass)) (sSeq (sIf (tCmp cEq (eVar 0) (eC (.p (.int 1)))) (sRaise2 9 f1_BadTree f2_BadTree (aCons (eVar 2) (aCons (eVar 3) (aNil)))) (sPass)) (sSeq (sIf (tCmp cEq (eVar 0) (eC (.p (.int 2)))) (sRaise2 10 f1_BadLog f2_BadLog (aCons (eVar 2) (aCons (eVar 3) (aNil)))) (sPass)) (sSeq (sIf (tCmp cEq (eVar 0) (eC (.p (.int 3)))) (sRaise1 11 f1_NoCommand (aCons (eVar 2) (aNil))) (sPass)) (sSeq (sIf (tCmp cEq (eVar 0) (eC (.p (.int 4)))) (sRaise2 13 f1_TooLarge f2_TooLarge (aCons (eVar 2) (aCons (eVar 3) (aNil)))) (sPass)) (sRaise0 12)))))) (mute [⟨tk_SoonError, some 4, sCn nmOf 4⟩]))
def b_law (F : Nat → Fn) : DS := sSeq (sSet 1 (eCall 1 (F 0) (aCons (eVar 0) (aNil)))) (sSeq (sFor (iRg1 (aCons (eC (.p (.int 7))) (aNil))) (gNm 2) (sSeq (sSet 3 (eLc (iRg1 (aCons (eC (.p (.int 2))) (aNil))) (gNm 4) (tTrue) (eCall 2 (F 2) (aCons (eVar 1) (aCons (eLst (aCons (eC (.p (.int 0))) (aCons (eC (.p (.int 7))) (aCons (eC (.p (.str "x"))) (aCons (eC (.p .none)) (aCons (eTup (aCons (eC (.p (.str "rule"))) (aCons (eC (.p (.str "r"))) (aNil)))) (aNil))))))) (aNil)))) [4])) (sSeq (sAsg (eCall 2 (F 4) (aCons (eVar 2) (aCons (eVar 3) (aNil)))) (gTp 4 (gsCons (gNm 5) (gsCons (gNm 6) (gsCons (gNm 7) (gsCons (gNm 8) (gsNil))))))) (sSeq (sIf (tOrD (tNotD (tOfE (eFn (fIsX nmOf 7) (aCons (eVar 5) (aCons (eC (.fn 7)) (aNil)))))) (tOrD (tNotD (tOfE (eFn (fIsX nmOf 7) (aCons (eVar 5) (aCons (eC (.ty "ValueError")) (aNil)))))) (tNotD (tOfE (eCall 2 (F 3) (aCons (eVar 6) (aCons (eVar 7) (aNil)))))))) (sRet (eC (.p (.bool false)))) (sPass)) (sIf (tOrD (tCmp cNe (eCn nmOf (eVar 5)) (eVar 8)) (tCmp cNe (eCall 2 (F 5) (aCons (eVar 2) (aCons (eVar 3) (aNil)))) (eIfD (tCmp cLt (eVar 2) (eC (.p (.int 6)))) (eVar 8) (eC (.p (.str "Nothing")))))) (sRet (eC (.p (.bool false)))) (sPass)))))) (sRet (eC (.p (.bool true)))))
def fstep (F : Nat → Fn) : Nat → Fn
  | 0 => enter 1 1 (b__law_bag F)
  | 1 => enter 2 5 (b__law_take F)
  | 2 => enter 2 0 (b__law_some F)
  | 3 => enter 2 0 (b__law_alike F)
  | 4 => enter 2 3 (b__law_error F)
  | 5 => enter 2 3 (b__law_raised F)
  | 6 => enter 1 8 (b_law F)
  | _ => fun _ _ => .stuck
def fns : Nat → Nat → Fn
  | 0, _ => fun _ _ => .stuck
  | l + 1, i => loc (fstep (fns l) i)
end K00
set_option Elab.async false
set_option linter.all false
set_option maxRecDepth 100000
namespace K00
open PySem PySem.Spec PyProof.Rows Ev
def bagL (x y z : Int) (c : Nat) : List D := [.p (.int x), .p (.int y), .p (.int z), .ref c]
theorem ix_ref {G : GH} {b : Nat} {ds : List D} {i : Int} {d : D} (h : G[b]? = some (.lst ds)) (ha : L2.atI ds i = some d) : oIxA (.ref b) (.p (.int i)) G = .ok d G := by
  unfold oIxA dictAt
  simp only [h]
  unfold oIx lstAt
  simp only [h, Option.bind_some, ha]
theorem at0 {x y z : Int} {c : Nat} : L2.atI (bagL x y z c) 0 = some (.p (.int x)) := rfl
theorem at1 {x y z : Int} {c : Nat} : L2.atI (bagL x y z c) 1 = some (.p (.int y)) := rfl
theorem at2 {x y z : Int} {c : Nat} : L2.atI (bagL x y z c) 2 = some (.p (.int z)) := rfl
theorem at3 {x y z : Int} {c : Nat} : L2.atI (bagL x y z c) 3 = some (.ref c) := rfl
theorem set_ref {G : GH} {b j : Nat} {ds : List D} {i : Int} {d : D} (h : G[b]? = some (.lst ds)) (ha : L2.ixN ds.length i = some j) : setA (.ref b) (.p (.int i)) d G = some (G.set b (.lst (ds.set j d))) := by
  unfold setA
  simp only [h]
  unfold setIx lstAt setL
  simp only [h, Option.bind_some, ha, Option.map_some]
theorem take_draw {F : Nat → Fn} {G : GH} {b c : Nat} {x y z m : Int} (h : G[b]? = some (.lst (bagL x y z c))) (hx : 0 < x) (hm : 0 < m) (hm2 : m.natAbs < 1073741824) :
    enter 2 5 (b__law_take F) [.ref b, .p (.int m)] G = .ok (.p (.int (x.fmod m))) (G.set b (.lst (bagL (x.fdiv m) y z c))) := by
  have e0 : oIxA (.ref b) (.p (.int 0)) G = .ok (.p (.int x)) G := ix_ref h at0
  have n0 : ¬ (x = 0) := by omega
  have n1 : ¬ (m = 0) := by omega
  have s0 : ∀ v : Int, setA (.ref b) (.p (.int 0)) (.p (.int v)) G = some (G.set b (.lst (bagL v y z c))) := fun v => set_ref h (j := 0) rfl
  unfold enter b__law_take
  simp [sSeq, sIf, tCmp, eBin, eVar, eC, e0, cEq, snap, eqP, scP, oB, PyData.eqv, cGt, hx, sSet, sStore, sRet, eFn, aCons, aNil, fInt, oMod, oFdiv, n0, n1, hm2, sPass, s0]
end K00
set_option Elab.async false
set_option linter.all false
set_option maxRecDepth 100000
namespace K00
open PySem PySem.Spec PyProof.Rows Ev
abbrev dI (i : Int) : D := .p (.int i)
theorem lst_at {G : GH} {i : Nat} {ds : List D} (h : G[i]? = some (.lst ds)) : lstAt G i = some ds := by unfold lstAt; rw [h]
theorem app_at {G : GH} {i : Nat} {o : O} {J : GH} (h : G[i]? = some o) : (G ++ J)[i]? = some o := by
  rw [List.getElem?_append_left (List.getElem?_eq_some_iff.mp h).1]; exact h
theorem cut_from {cells : List Int} {z : Int} : ∃ k, cutD (cells.map dI) (some z) none = (cells.drop k).map dI := by
  unfold Ev.cutD
  refine ⟨HT.sIx (cells.map dI).length 0 (some z), ?_⟩
  rw [List.take_of_length_le, ← List.map_drop]
  rw [List.length_drop]
  exact Nat.le_refl _
theorem cell_is {G : GH} {b c : Nat} {x y z : Int} {cells : List Int} (h : G[b]? = some (.lst (bagL x y z c))) (hc : G[c]? = some (.lst (cells.map dI))) (hl : cells.length < 1000) (hp : ∀ i ∈ cells, (0 : Int) ≤ i) {ρ : Rho} (hr : ρ[0]? = some (some (.ref b))) :
    ∃ w J, 0 ≤ w ∧ eBin oIxA (eBin oAdd (eSl (eBin oIxA (eVar 0) (eC (.p (.int 3)))) (oSome (eBin oIxA (eVar 0) (eC (.p (.int 2))))) (oNo)) (eLst (aCons (eC (.p (.int 0))) (aNil)))) (eC (.p (.int 0))) ρ G = .ok (dI w) (G ++ J) := by
  obtain ⟨k, hk⟩ := cut_from (cells := cells) (z := z)
  have e3 : oIxA (.ref b) (.p (.int 3)) G = .ok (.ref c) G := ix_ref h at3
  have e2 : oIxA (.ref b) (.p (.int 2)) G = .ok (dI z) G := ix_ref h at2
  have s1 : slD (.ref c) (some z) none G = .ok (.ref G.length) (G ++ [.lst ((cells.drop k).map dI)]) := by
    have q := lst_at hc
    show (match lstAt G c with | some ds => newL (Ev.cutD ds (some z) none) G | none => .stuck) = _
    rw [q]
    show newL (Ev.cutD (cells.map dI) (some z) none) G = _
    rw [hk]; rfl
  have small : (1 : Nat) ≤ sizeLine := by decide
  have a1 : oAdd (.ref G.length) (.ref (G.length + 1)) (G ++ [.lst ((cells.drop k).map dI)] ++ [.lst [dI 0]]) = .ok (.ref (G.length + 2)) (G ++ [.lst ((cells.drop k).map dI)] ++ [.lst [dI 0]] ++ [.lst ((cells.drop k).map dI ++ [dI 0])]) := by
    have l1 : lstAt (G ++ [.lst ((cells.drop k).map dI)] ++ [.lst [dI 0]]) G.length = some ((cells.drop k).map dI) := lst_at (by simp)
    have l2 : lstAt (G ++ [.lst ((cells.drop k).map dI)] ++ [.lst [dI 0]]) (G.length + 1) = some [dI 0] := lst_at (by simp)
    unfold oAdd
    simp only [l1, l2]
    rw [if_pos (by
      have : (1000 : Nat) + 1 ≤ sizeLine := by decide
      simp; omega)]
    unfold newL
    simp
  have ix : ∃ w, 0 ≤ w ∧ L2.atI ((cells.drop k).map dI ++ [dI 0]) 0 = some (dI w) := by
    cases q : cells.drop k with
    | nil => exact ⟨0, Int.le_refl _, rfl⟩
    | cons w r =>
      refine ⟨w, hp w (List.mem_of_mem_drop (by rw [q]; exact List.mem_cons_self)), ?_⟩
      unfold L2.atI L2.ixN
      rw [if_pos (Int.le_refl _), if_pos (by simp; omega)]
      rfl
  obtain ⟨w, hw, hx⟩ := ix
  refine ⟨w, [.lst ((cells.drop k).map dI)] ++ [.lst [dI 0]] ++ [.lst ((cells.drop k).map dI ++ [dI 0])], hw, ?_⟩
  simp only [eBin, eSl, eVar, hr, eC, oSome, oNo, e3, e2, eLst, aCons, aNil, Res.bind_ok, s1, List.length_singleton, small, if_true, newL]
  have l3 : (G ++ [O.lst ((cells.drop k).map dI)]).length = G.length + 1 := by simp
  rw [l3, a1]
  simp only [Res.bind_ok]
  rw [ix_ref (i := 0) (d := dI w) (ds := (cells.drop k).map dI ++ [dI 0]) (by simp) hx]
  simp
end K00
set_option Elab.async false
set_option linter.all false
set_option maxRecDepth 100000
namespace K00
open PySem PySem.Spec PyProof.Rows Ev
theorem set_at {G : GH} {b : Nat} {o o' : O} (h : G[b]? = some o) : (G.set b o')[b]? = some o' := by
  rw [List.getElem?_set_self (List.getElem?_eq_some_iff.mp h).1]
theorem oMul_int {i j : Int} {G : GH} (h : (oneI i || oneI j) = true) : oMul (dI i) (dI j) G = .ok (dI (i * j)) G := by
  show (if (oneI i || oneI j) = true then okI (i * j) G else .stuck) = _
  rw [if_pos h]
theorem oMod_int {i j : Int} {G : GH} (h : j ≠ 0) : oMod (dI i) (dI j) G = .ok (dI (i.fmod j)) G := by
  show (if j ≠ 0 then okI (i.fmod j) G else .stuck) = _
  rw [if_pos h]
theorem oFdiv_int {i j : Int} {G : GH} (h : j ≠ 0) (h2 : j.natAbs < 1073741824) : oFdiv (dI i) (dI j) G = .ok (dI (i.fdiv j)) G := by
  show (if j ≠ 0 ∧ j.natAbs < 1073741824 then okI (i.fdiv j) G else .stuck) = _
  rw [if_pos ⟨h, h2⟩]
theorem oAdd_int {i j : Int} {G : GH} : oAdd (dI i) (dI j) G = .ok (dI (i + j)) G := rfl
theorem fInt_int {i : Int} {G : GH} : fInt [dI i] G = .ok (dI i) G := rfl
theorem aug_z {G : GH} {b c : Nat} {x y z : Int} (h : G[b]? = some (.lst (bagL x y z c))) {ρ : Rho} (hr : ρ[0]? = some (some (.ref b))) :
    sAugI (eVar 0) (eC (.p (.int 2))) (eC (.p (.int 1))) (· + ·) ρ G = .nx ρ (G.set b (.lst (bagL x y (z + 1) c))) := by
  have s : setIx (.ref b) (.p (.int 2)) (.p (.int (z + 1))) G = some (G.set b (.lst (bagL x y (z + 1) c))) := by
    show ((lstAt G b).bind fun ds => (L2.ixN ds.length 2).map fun j => setL b (ds.set j (.p (.int (z + 1)))) G) = _
    rw [lst_at h]; rfl
  simp only [sAugI, eVar, hr, eC, Res.bindS_ok, lst_at h, Option.bind_some]
  simp [bagL, s]
/-- what is drawn where the bag is empty -/
theorem take_last {F : Nat → Fn} {G : GH} {b c : Nat} {y z m : Int} {ρ : Rho} (h : G[b]? = some (.lst (bagL 0 y z c))) (hr : ρ[0]? = some (some (.ref b))) (hr1 : ρ[1]? = some (some (dI m))) (hl : ρ.length = 7) (hy : 0 ≤ y) (hy2 : y < 2147483647) (hm : 0 < m) :
    ∃ v, 0 ≤ v ∧ v < m ∧ (sSeq (sSet 5 (eBin oMod (eFn fInt (aCons (eBin oMul (eBin oAdd (eBin oIxA (eVar 0) (eC (.p (.int 1)))) (eC (.p (.int 1)))) (eC (.p (.int 39373)))) (aNil))) (eC (.p (.int 1000000007))))) (sSeq (sSet 6 (eBin oMod (eFn fInt (aCons (eBin oMul (eBin oMod (eFn fInt (aCons (eBin oMul (eVar 5) (eVar 5)) (aNil))) (eC (.p (.int 998244353)))) (eC (.p (.int 30011)))) (aNil))) (eC (.p (.int 998244353))))) (sRet (eBin oMod (eFn fInt (aCons (eBin oFdiv (eVar 6) (eC (.p (.int 7)))) (aNil))) (eVar 1))))) ρ G = .rt (dI v) G := by
  have e1 : oIxA (.ref b) (.p (.int 1)) G = .ok (dI y) G := ix_ref h at1
  match ρ, hl with
  | [a0, a1, a2, a3, a4, a5, a6], _ =>
    have q0 : a0 = some (.ref b) := by simpa using hr
    have q1 : a1 = some (dI m) := by simpa using hr1
    subst q0 q1
    have nm : ¬ m = 0 := by omega
    have t : ∀ (d : DE) (u : Int), oneI u = true → True := fun _ _ _ => trivial
    let p : Int := ((y + 1) * 39373).fmod 1000000007
    have hp : 0 ≤ p ∧ p < 1000000007 := ⟨Int.fmod_nonneg_of_pos _ (by decide), Int.fmod_lt_of_pos _ (by decide)⟩
    have o1 : oneI p = true := by unfold oneI; simp; omega
    refine ⟨((((p * p).fmod 998244353 * 30011).fmod 998244353).fdiv 7).fmod m, Int.fmod_nonneg_of_pos _ hm, Int.fmod_lt_of_pos _ hm, ?_⟩
    have k1 : oneI 39373 = true := by decide
    have k2 : oneI 30011 = true := by decide
    have o2 : ∀ j, (oneI (((y + 1) * 39373).fmod 1000000007) || oneI j) = true := fun j => by
      rw [show oneI (((y + 1) * 39373).fmod 1000000007) = true from o1]; rfl
    have o3 : ∀ i, (oneI i || oneI 39373) = true := fun i => by rw [k1, Bool.or_true]
    have o4 : ∀ i, (oneI i || oneI 30011) = true := fun i => by rw [k2, Bool.or_true]
    have z1 : (1000000007 : Int) ≠ 0 := by decide
    have z2 : (998244353 : Int) ≠ 0 := by decide
    have z3 : (7 : Int) ≠ 0 := by decide
    have z4 : (7 : Int).natAbs < 1073741824 := by decide
    simp only [sSeq, sSet, eBin, eVar, eC, e1, eFn, aCons, aNil, sRet, Res.bind_ok, Res.bindS_ok, List.getElem?_cons_zero, List.getElem?_cons_succ, List.set_cons_zero, List.set_cons_succ, oAdd_int, oMul_int (o3 _), oMul_int (o4 _), oMul_int (o2 _), oMod_int z1, oMod_int z2, oMod_int nm, oFdiv_int z3 z4, fInt_int]
    rfl
end K00
set_option Elab.async false
set_option linter.all false
set_option maxRecDepth 100000
namespace K00
open PySem PySem.Spec PyProof.Rows Ev
theorem set_self {G : GH} {b : Nat} {o : O} (h : G[b]? = some o) : G.set b o = G := by
  refine List.ext_getElem? fun i => ?_
  by_cases e : b = i
  · subst e; rw [List.getElem?_set_self (List.getElem?_eq_some_iff.mp h).1, h]
  · rw [List.getElem?_set_ne e]
def tkTail (F : Nat → Fn) : DS := (sSeq (sIf (tCmp cGt (eBin oIxA (eVar 0) (eC (.p (.int 0)))) (eC (.p (.int 0)))) (sSeq (sSet 4 (eBin oMod (eFn fInt (aCons (eBin oIxA (eVar 0) (eC (.p (.int 0)))) (aNil))) (eVar 1))) (sSeq (sStore (eVar 0) (eC (.p (.int 0))) (eBin oFdiv (eFn fInt (aCons (eBin oIxA (eVar 0) (eC (.p (.int 0)))) (aNil))) (eVar 1)) setA) (sRet (eVar 4)))) (sPass)) (sSeq (sSet 5 (eBin oMod (eFn fInt (aCons (eBin oMul (eBin oAdd (eBin oIxA (eVar 0) (eC (.p (.int 1)))) (eC (.p (.int 1)))) (eC (.p (.int 39373)))) (aNil))) (eC (.p (.int 1000000007))))) (sSeq (sSet 6 (eBin oMod (eFn fInt (aCons (eBin oMul (eBin oMod (eFn fInt (aCons (eBin oMul (eVar 5) (eVar 5)) (aNil))) (eC (.p (.int 998244353)))) (eC (.p (.int 30011)))) (aNil))) (eC (.p (.int 998244353))))) (sRet (eBin oMod (eFn fInt (aCons (eBin oFdiv (eVar 6) (eC (.p (.int 7)))) (aNil))) (eVar 1))))))
theorem tail_ok {F : Nat → Fn} {G : GH} {b c : Nat} {x y z m : Int} {ρ : Rho} (h : G[b]? = some (.lst (bagL x y z c))) (hr : ρ[0]? = some (some (.ref b))) (hr1 : ρ[1]? = some (some (dI m))) (hl : ρ.length = 7) (hx : 0 ≤ x) (hy : 0 ≤ y) (hy2 : y < 2147483647) (hm : 0 < m) (hm2 : m.natAbs < 1073741824) :
    ∃ v x', 0 ≤ v ∧ v < m ∧ 0 ≤ x' ∧ tkTail F ρ G = .rt (dI v) (G.set b (.lst (bagL x' y z c))) := by
  have e0 : oIxA (.ref b) (.p (.int 0)) G = .ok (dI x) G := ix_ref h at0
  have cg : cGt (dI x) (.p (.int 0)) G = some (decide (0 < x)) := rfl
  match ρ, hl with
  | [a0, a1, a2, a3, a4, a5, a6], _ =>
    have q0 : a0 = some (.ref b) := by simpa using hr
    have q1 : a1 = some (dI m) := by simpa using hr1
    subst q0 q1
    by_cases hx0 : 0 < x
    · have s0 : setA (.ref b) (.p (.int 0)) (dI (x.fdiv m)) G = some (G.set b (.lst (bagL (x.fdiv m) y z c))) := set_ref h (j := 0) rfl
      have nm : m ≠ 0 := by omega
      refine ⟨x.fmod m, x.fdiv m, Int.fmod_nonneg_of_pos _ hm, Int.fmod_lt_of_pos _ hm, Int.fdiv_nonneg hx (by omega), ?_⟩
      unfold tkTail
      simp only [sSeq, sIf, tCmp, sSet, sStore, eBin, eVar, eC, e0, cg, oB, decide_eq_true hx0, if_true, eFn, aCons, aNil, sRet, Res.bind_ok, Res.bindS_ok, List.getElem?_cons_zero, List.getElem?_cons_succ, List.set_cons_zero, List.set_cons_succ, oMod_int nm, oFdiv_int nm hm2, fInt_int, s0]
    · have x0 : x = 0 := by omega
      subst x0
      obtain ⟨v, v1, v2, e⟩ := take_last (F := F) (ρ := [some (.ref b), some (dI m), a2, a3, a4, a5, a6]) h rfl rfl rfl hy hy2 hm
      refine ⟨v, 0, v1, v2, Int.le_refl _, ?_⟩
      rw [set_self h, ← e]
      unfold tkTail
      have k : (sIf (tCmp cGt (eBin oIxA (eVar 0) (eC (.p (.int 0)))) (eC (.p (.int 0)))) (sSeq (sSet 4 (eBin oMod (eFn fInt (aCons (eBin oIxA (eVar 0) (eC (.p (.int 0)))) (aNil))) (eVar 1))) (sSeq (sStore (eVar 0) (eC (.p (.int 0))) (eBin oFdiv (eFn fInt (aCons (eBin oIxA (eVar 0) (eC (.p (.int 0)))) (aNil))) (eVar 1)) setA) (sRet (eVar 4)))) (sPass)) [some (.ref b), some (dI m), a2, a3, a4, a5, a6] G = .nx [some (.ref b), some (dI m), a2, a3, a4, a5, a6] G := by
        simp [sIf, tCmp, eBin, eVar, eC, e0, cg, oB, sPass]
      rw [sSeq, k]
end K00
set_option Elab.async false
set_option linter.all false
set_option maxRecDepth 100000
namespace K00
open PySem PySem.Spec PyProof.Rows Ev
theorem sIf_true {t : DT} {a b : DS} {ρ : Rho} {G : GH} (h : t ρ G = .ok true G) : sIf t a b ρ G = a ρ G := by simp [sIf, h]
theorem take_run {F : Nat → Fn} {G : GH} {b c : Nat} {x y z m : Int} {cells : List Int} (h : G[b]? = some (.lst (bagL x y z c))) (hc : G[c]? = some (.lst (cells.map dI))) (hbc : b ≠ c) (hx : 0 ≤ x) (hy : 0 ≤ y) (hy2 : y < 2147483647) (hl : cells.length < 1000) (hp : ∀ i ∈ cells, (0 : Int) ≤ i) (hm : 0 < m) (hm2 : m.natAbs < 1073741824) :
    ∃ v x' y' z' J, 0 ≤ v ∧ v < m ∧ 0 ≤ x' ∧ 0 ≤ y' ∧ y' < 2147483647 ∧ enter 2 5 (b__law_take F) [.ref b, dI m] G = .ok (dI v) (G.set b (.lst (bagL x' y' z' c)) ++ J) := by
  have e0 : oIxA (.ref b) (.p (.int 0)) G = .ok (dI x) G := ix_ref h at0
  by_cases hx0 : x = 0
  · subst hx0
    obtain ⟨w, J, hw, e⟩ := cell_is (ρ := [some (.ref b), some (dI m), none, none, none, none, none]) h hc hl hp rfl
    have h1 : (G ++ J)[b]? = some (.lst (bagL 0 y z c)) := app_at h
    have ce : cEq (dI 0) (.p (.int 0)) G = some true := rfl
    have a2 := aug_z (ρ := [some (.ref b), some (dI m), some (dI w), none, none, none, none]) h1 rfl
    have h2 : ((G ++ J).set b (.lst (bagL 0 y (z + 1) c)))[b]? = some (.lst (bagL 0 y (z + 1) c)) := set_at h1
    obtain ⟨x1, hx1, e3⟩ : ∃ x1, 0 ≤ x1 ∧ sIf (tCmp cGe (eVar 2) (eBin oPow (eC (.p (.int 10))) (eC (.p (.int 18))))) (sStore (eVar 0) (eC (.p (.int 0))) (eVar 2) setA) (sPass) [some (.ref b), some (dI m), some (dI w), none, none, none, none] ((G ++ J).set b (.lst (bagL 0 y (z + 1) c))) =
        .nx [some (.ref b), some (dI m), some (dI w), none, none, none, none] ((G ++ J).set b (.lst (bagL x1 y (z + 1) c))) := by
      have s0 : setA (.ref b) (.p (.int 0)) (dI w) ((G ++ J).set b (.lst (bagL 0 y (z + 1) c))) = some ((G ++ J).set b (.lst (bagL w y (z + 1) c))) := by
        rw [set_ref h2 (j := 0) rfl, List.set_set]; rfl
      have po : ∀ G : GH, oPow (.p (.int 10)) (.p (.int 18)) G = .ok (dI 1000000000000000000) G := fun G => by
        show (if (0 : Int) ≤ 18 ∧ (18 : Int) ≤ 1000000 ∧ (10 : Int).natAbs < 2 ^ 64 then okI ((10 : Int) ^ (18 : Int).toNat) G else .stuck) = _
        rw [if_pos (by decide)]; rfl
      have cg : ∀ G : GH, cGe (dI w) (dI 1000000000000000000) G = some (decide ((1000000000000000000 : Int) ≤ w)) := fun G => rfl
      by_cases hb : (1000000000000000000 : Int) ≤ w
      · refine ⟨w, hw, ?_⟩
        simp only [sIf, tCmp, eBin, eVar, eC, Res.bind_ok, Res.bindS_ok, List.getElem?_cons_zero, List.getElem?_cons_succ, po, cg, decide_eq_true hb, oB, if_true, sStore, s0]
      · refine ⟨0, Int.le_refl _, ?_⟩
        simp [sIf, tCmp, eBin, eVar, eC, po, cg, hb, oB, sPass]
    have h3 : ((G ++ J).set b (.lst (bagL x1 y (z + 1) c)))[b]? = some (.lst (bagL x1 y (z + 1) c)) := set_at h1
    let st : Int := y * 48271 + w.fmod 2147483647 + 7919 * (z + 1)
    let y2 : Int := st.fmod 2147483647
    have hy2' : 0 ≤ y2 ∧ y2 < 2147483647 := ⟨Int.fmod_nonneg_of_pos _ (by decide), Int.fmod_lt_of_pos _ (by decide)⟩
    have h4 : ((G ++ J).set b (.lst (bagL x1 y2 (z + 1) c)))[b]? = some (.lst (bagL x1 y2 (z + 1) c)) := set_at h1
    obtain ⟨v, x', v1, v2, x2, e5⟩ := tail_ok (F := F) (ρ := [some (.ref b), some (dI m), some (dI w), some (dI st), none, none, none]) h4 rfl rfl rfl hx1 hy2'.1 hy2'.2 hm hm2
    refine ⟨v, x', y2, z + 1, J, v1, v2, x2, hy2'.1, hy2'.2, ?_⟩
    have e1 : oIxA (.ref b) (.p (.int 1)) ((G ++ J).set b (.lst (bagL x1 y (z + 1) c))) = .ok (dI y) _ := ix_ref h3 at1
    have e2 : oIxA (.ref b) (.p (.int 2)) ((G ++ J).set b (.lst (bagL x1 y (z + 1) c))) = .ok (dI (z + 1)) _ := ix_ref h3 at2
    have s1 : setA (.ref b) (.p (.int 1)) (dI y2) ((G ++ J).set b (.lst (bagL x1 y (z + 1) c))) = some ((G ++ J).set b (.lst (bagL x1 y2 (z + 1) c))) := by
      rw [set_ref h3 (j := 1) rfl, List.set_set]; rfl
    have zp : (2147483647 : Int) ≠ 0 := by decide
    have o3 : ∀ i, (oneI i || oneI 48271) = true := fun i => by rw [show oneI 48271 = true from by decide, Bool.or_true]
    have o4 : ∀ i, (oneI 7919 || oneI i) = true := fun i => by rw [show oneI 7919 = true from by decide, Bool.true_or]
    have last : (G ++ J).set b (.lst (bagL x' y2 (z + 1) c)) = G.set b (.lst (bagL x' y2 (z + 1) c)) ++ J := by rw [List.set_append_left _ _ (List.getElem?_eq_some_iff.mp h).1]
    rw [List.set_set, last] at e5
    unfold enter b__law_take
    rw [if_pos (show [D.ref b, dI m].length = 2 from rfl)]
    show (match sSeq _ (tkTail F) [some (.ref b), some (dI m), none, none, none, none, none] G with | .nx _ G => Res.ok (D.p .none) G | .rt d G => .ok d G | .exc c fs _ G => .exc c fs G | _ => .stuck) = _
    have c0 : tCmp cEq (eBin oIxA (eVar 0) (eC (.p (.int 0)))) (eC (.p (.int 0))) [some (.ref b), some (dI m), none, none, none, none, none] G = .ok true G := by
      simp only [tCmp, eBin, eVar, eC, Res.bind_ok, List.getElem?_cons_zero, e0, ce, oB]
    have c1 := e
    simp only [sSeq, sIf_true c0]
    simp only [sSet, c1, Res.bindS_ok, List.set_cons_zero, List.set_cons_succ, a2, e3]
    simp only [ eBin, eVar, eC, Res.bind_ok, Res.bindS_ok, List.getElem?_cons_zero, List.getElem?_cons_succ, e1, e2, oMul_int (o3 _), oMul_int (o4 _), oMod_int zp, eFn, aCons, aNil, fInt_int, oAdd_int, List.set_cons_zero, List.set_cons_succ, sStore]
    rw [show ((y * 48271 + w.fmod 2147483647 + 7919 * (z + 1)).fmod 2147483647) = y2 from rfl, s1]
    show (match tkTail F _ _ with | .nx _ G => Res.ok (D.p .none) G | .rt d G => .ok d G | .exc c fs _ G => .exc c fs G | _ => .stuck) = _
    rw [e5]
  · obtain ⟨v, x', v1, v2, x1, e⟩ := tail_ok (F := F) (ρ := [some (.ref b), some (dI m), none, none, none, none, none]) h rfl rfl rfl hx hy hy2 hm hm2
    refine ⟨v, x', y, z, [], v1, v2, x1, hy, hy2, ?_⟩
    rw [List.append_nil]
    have n0 : PyData.eqv (.int x) (.int 0) = false := by simp [PyData.eqv, hx0]
    have ce : cEq (dI x) (.p (.int 0)) G = some false := by
      have : cEq (dI x) (.p (.int 0)) G = some (PyData.eqv (.int x) (.int 0)) := rfl
      rw [this, n0]
    unfold enter b__law_take
    rw [if_pos (show [D.ref b, dI m].length = 2 from rfl)]
    show (match sSeq _ (tkTail F) [some (.ref b), some (dI m), none, none, none, none, none] G with | .nx _ G => Res.ok (D.p .none) G | .rt d G => .ok d G | .exc c fs _ G => .exc c fs G | _ => .stuck) = _
    simp [sSeq, sIf, tCmp, eBin, eVar, eC, e0, ce, oB, sPass, e]
end K00
set_option Elab.async false
set_option linter.all false
set_option maxRecDepth 100000
namespace K00
open PySem PySem.Spec PyProof.Rows Ev
/-- the bag at b, its cells at c -/
structure Bag (G : GH) (b c : Nat) : Prop where
  ex : ∃ (x y z : Int) (cells : List Int), G[b]? = some (.lst (bagL x y z c)) ∧ G[c]? = some (.lst (cells.map dI)) ∧ 0 ≤ x ∧ 0 ≤ y ∧ y < 2147483647 ∧ cells.length < 1000 ∧ ∀ i ∈ cells, (0 : Int) ≤ i
  ne : b ≠ c
  wf : G.all (ltO G.length) = true
/-- nothing but the bag has changed -/
structure Same (b c : Nat) (G G' : GH) : Prop where
  len : G'.length = G.length
  keep : ∀ i, i ≠ b → G'[i]? = G[i]?
  bag : Bag G' b c
theorem take_law {l : Nat} {G : GH} {b c : Nat} {m : Int} (B : Bag G b c) (hm : 0 < m) (hm2 : m.natAbs < 1073741824) : ∃ v G', 0 ≤ v ∧ v < m ∧ fns (l + 1) 1 [.ref b, dI m] G = .ok (dI v) G' ∧ Same b c G G' := by
  obtain ⟨x, y, z, cells, h, hc, hx, hy, hy2, hl, hp⟩ := B.ex
  obtain ⟨v, x', y', z', J, v1, v2, x1, y1, y2, e⟩ := take_run (F := fns l) h hc B.ne hx hy hy2 hl hp hm hm2
  have lb : b < G.length := (List.getElem?_eq_some_iff.mp h).1
  have lc : c < G.length := (List.getElem?_eq_some_iff.mp hc).1
  have tk : (G.set b (.lst (bagL x' y' z' c)) ++ J).take G.length = G.set b (.lst (bagL x' y' z' c)) := by
    rw [List.take_append_of_le_length (by simp), List.take_of_length_le (by simp)]
  have wf : (G.set b (.lst (bagL x' y' z' c))).all (ltO G.length) = true := by
    rw [List.all_eq_true]
    intro o ho
    rcases List.mem_or_eq_of_mem_set ho with q | q
    · exact List.all_eq_true.mp B.wf o q
    · subst q
      simp [ltO, bagL, ltL, ltD, lc]
  refine ⟨v, G.set b (.lst (bagL x' y' z' c)), v1, v2, ?_, ⟨by simp, fun i hi => List.getElem?_set_ne (Ne.symm hi), ⟨⟨x', y', z', cells, set_at h, by rw [List.getElem?_set_ne B.ne]; exact hc, x1, y1, y2, hl, hp⟩, B.ne, by simpa using wf⟩⟩⟩
  show loc (enter 2 5 (b__law_take (fns l))) [.ref b, dI m] G = _
  have lm : loc (enter 2 5 (b__law_take (fns l))) [.ref b, dI m] G = locM (enter 2 5 (b__law_take (fns l))) [.ref b, dI m] G := rfl
  rw [lm]
  unfold locM
  rw [e]
  simp only [tk, wf, if_true]
end K00
set_option Elab.async false
set_option linter.all false
set_option maxRecDepth 100000
namespace K00
open PySem PySem.Spec PyProof.Rows Ev
theorem wf_set {G : GH} {f : Nat} {ps : List PyData} (w : Wf G) : Wf (G.set f (.lst (ps.map .p))) := by
  unfold Wf at *
  rw [List.all_eq_true] at *
  intro o ho
  rw [List.length_set]
  rcases List.mem_or_eq_of_mem_set ho with q | q
  · exact w o q
  · subst q; simp [ltO]
theorem lst_set {G : GH} {f : Nat} {ds es : List D} (h : lstAt G f = some ds) : lstAt (G.set f (.lst es)) f = some es := by
  refine Ev.lst_at ?_
  rw [List.getElem?_set_self (List.getElem?_eq_some_iff.mp (at_lst h)).1]
theorem lst_set_ne {G : GH} {f j : Nat} {ds es : List D} (hj : j ≠ f) (h : lstAt G j = some ds) : lstAt (G.set f (.lst es)) j = some ds := by
  refine Ev.lst_at ?_
  rw [List.getElem?_set_ne (Ne.symm hj)]
  exact at_lst h
theorem lst_lt {G : GH} {f : Nat} {ds : List D} (h : lstAt G f = some ds) : f < G.length := (List.getElem?_eq_some_iff.mp (at_lst h)).1
theorem lst_app {G J : GH} {f : Nat} {ds : List D} (h : lstAt G f = some ds) : lstAt (G ++ J) f = some ds := by
  refine Ev.lst_at ?_
  rw [List.getElem?_append_left (lst_lt h)]
  exact at_lst h
theorem sz_le {n : Nat} (h : n ≤ 100000) : n ≤ sizeLine := Nat.le_trans h (by decide)
end K00
set_option Elab.async false
set_option linter.all false
set_option maxRecDepth 100000
namespace K00
open PySem PySem.Spec PyProof.Rows Ev
/-- all but the bag stands as it did; there may be more -/
structure Mv (b c : Nat) (G G' : GH) : Prop where
  len : G.length ≤ G'.length
  keep : ∀ i, i < G.length → i ≠ b → G'[i]? = G[i]?
  bag : Bag G' b c
section
variable {b c : Nat} {G G' G2 : GH} {l : Nat}
theorem Bag.w (B : Bag G b c) : Wf G := B.wf
theorem Bag.lb (B : Bag G b c) : b < G.length := by
  obtain ⟨x, y, z, cells, h, _⟩ := B.ex
  exact (List.getElem?_eq_some_iff.mp h).1
theorem Bag.lc (B : Bag G b c) : c < G.length := by
  obtain ⟨x, y, z, cells, _, h, _⟩ := B.ex
  exact (List.getElem?_eq_some_iff.mp h).1
theorem Mv.refl (B : Bag G b c) : Mv b c G G := ⟨Nat.le_refl _, fun _ _ _ => rfl, B⟩
theorem Mv.trans (a : Mv b c G G') (d : Mv b c G' G2) : Mv b c G G2 := ⟨Nat.le_trans a.len d.len, fun i hi hb => by rw [d.keep i (Nat.lt_of_lt_of_le hi a.len) hb, a.keep i hi hb], d.bag⟩
theorem Same.mv (s : Same b c G G') : Mv b c G G' := ⟨Nat.le_of_eq s.len.symm, fun i _ hb => s.keep i hb, s.bag⟩
theorem Mv.same (B : Bag G b c) (m : Mv b c G G') (h : G'.length = G.length) : Same b c G G' := ⟨h, fun i hb => by
  by_cases hi : i < G.length
  · exact m.keep i hi hb
  · rw [List.getElem?_eq_none (by omega), List.getElem?_eq_none (by omega)], m.bag⟩
theorem Mv.grow (B : Bag G b c) (g : Grow G G') : Mv b c G G' := by
  obtain ⟨x, y, z, cells, h1, h2, r⟩ := B.ex
  obtain ⟨⟨J, e⟩, w⟩ := g
  refine ⟨by rw [e]; simp, fun i hi _ => by rw [e, List.getElem?_append_left hi], ⟨⟨x, y, z, cells, ?_, ?_, r⟩, B.ne, w⟩⟩
  · rw [e, List.getElem?_append_left B.lb]; exact h1
  · rw [e, List.getElem?_append_left B.lc]; exact h2
theorem Mv.lst (m : Mv b c G G') {i : Nat} {ds : List D} (h : lstAt G i = some ds) (hb : i ≠ b) : lstAt G' i = some ds := by
  refine Ev.lst_at ?_
  rw [m.keep i (lst_lt h) hb]
  exact at_lst h
/-- back to the caller's heap -/
theorem cut_bag (B : Bag G b c) (m : Mv b c G G') : (G'.take G.length).all (ltO G.length) = true ∧ Same b c G (G'.take G.length) := by
  obtain ⟨x, y, z, cells, h1, h2, h3, h4, h5, h6, h7⟩ := m.bag.ex
  have hl : (G'.take G.length).length = G.length := by rw [List.length_take]; have := m.len; omega
  have hw : (G'.take G.length).all (ltO G.length) = true := by
    rw [List.all_eq_true]
    intro o ho
    obtain ⟨i, hi⟩ := List.getElem?_of_mem ho
    have hi2 : i < G.length := by have := (List.getElem?_eq_some_iff.mp hi).1; omega
    rw [List.getElem?_take_of_lt hi2] at hi
    by_cases e : i = b
    · subst e
      rw [h1] at hi
      cases hi
      have := B.lc
      simp [ltO, bagL, ltL, ltD, this]
    · rw [m.keep i hi2 e] at hi
      exact List.all_eq_true.mp B.wf o (List.mem_of_getElem? hi)
  refine ⟨hw, hl, fun i hi => ?_, ⟨⟨x, y, z, cells, ?_, ?_, h3, h4, h5, h6, h7⟩, B.ne, by rw [hl]; exact hw⟩⟩
  · by_cases hi2 : i < G.length
    · rw [List.getElem?_take_of_lt hi2, m.keep i hi2 hi]
    · rw [List.getElem?_eq_none (by omega), List.getElem?_eq_none (by omega)]
  · rw [List.getElem?_take_of_lt B.lb]; exact h1
  · rw [List.getElem?_take_of_lt B.lc]; exact h2
/-- a call with the bag that answers data -/
theorem loc_bag {r : Fn} {ds : List D} {R : PyData → Prop} (B : Bag G b c) (hd : pures ds = none) (H : wp (r ds G) (fun d G' => Mv b c G G' ∧ ∃ x, d = .p x ∧ R x) NoX) : wp (loc r ds G) (fun d G' => Same b c G G' ∧ ∃ x, d = .p x ∧ R x) NoX := by
  unfold loc
  simp only [hd]
  unfold locM
  obtain ⟨d, G1, e, m, x, rfl, hx⟩ := wp_some H
  obtain ⟨c1, c2⟩ := cut_bag B m
  simp only [e, c1, if_true]
  exact ⟨c2, x, rfl, hx⟩
/-- .. that answers anything, and leaves nothing behind -/
theorem loc_same {r : Fn} {ds : List D} {R : D → Prop} (hd : pures ds = none) (H : wp (r ds G) (fun d G' => Same b c G G' ∧ R d) NoX) : wp (loc r ds G) (fun d G' => Same b c G G' ∧ R d) NoX := by
  unfold loc
  simp only [hd]
  unfold locM
  obtain ⟨d, G1, e, s, hx⟩ := wp_some H
  rw [e]
  cases d with
  | p x =>
    have : G1.take G.length = G1 := List.take_of_length_le (by rw [s.len]; exact Nat.le_refl _)
    simp only [this]
    split
    · exact ⟨s, hx⟩
    · exact ⟨s, hx⟩
  | _ => exact ⟨s, hx⟩
/-- .. that answers anything -/
theorem loc_mv {r : Fn} {ds : List D} {R : D → GH → Prop} (B : Bag G b c) (hd : pures ds = none) (hR : ∀ x G G', R (.p x) G → R (.p x) G') (H : wp (r ds G) (fun d G' => Mv b c G G' ∧ R d G') NoX) : wp (loc r ds G) (fun d G' => Mv b c G G' ∧ R d G') NoX := by
  unfold loc
  simp only [hd]
  unfold locM
  obtain ⟨d, G1, e, m, hx⟩ := wp_some H
  rw [e]
  cases d with
  | p x =>
    obtain ⟨c1, c2⟩ := cut_bag B m
    simp only [c1, if_true]
    exact ⟨c2.mv, hR _ _ _ hx⟩
  | _ => exact ⟨m, hx⟩
theorem take_wp {m : Int} (B : Bag G b c) (hm : 0 < m) (hm2 : m < 1000000) : wp (fns (l + 1) 1 [.ref b, dI m] G) (fun d G' => Same b c G G' ∧ ∃ v : Nat, d = dI v ∧ (v : Int) < m) NoX := by
  obtain ⟨v, G', h1, h2, e, s⟩ := take_law (l := l) B hm (by omega)
  rw [e]
  refine ⟨s, v.toNat, ?_, by omega⟩
  show D.p (.int v) = D.p (.int _)
  rw [Int.toNat_of_nonneg h1]
theorem at_nat {α : Type} {xs : List α} {v : Nat} (h : v < xs.length) : L2.atI xs (v : Int) = some xs[v] := by
  unfold L2.atI L2.ixN
  rw [if_pos (by omega), if_pos (by omega)]
  exact List.getElem?_eq_getElem h
/-- something of a list -/
theorem some_lst {t : Nat} {ds : List D} (B : Bag G b c) (h : lstAt G t = some ds) (ht : t ≠ b) (h1 : 0 < ds.length) (h2 : ds.length < 1000000) : wp (fns (l + 2) 2 [.ref b, .ref t] G) (fun d G' => Same b c G G' ∧ d ∈ ds) NoX := by
  refine loc_same (r := enter 2 0 (b__law_some (fns (l + 1)))) rfl ?_
  refine wp_enter rfl ?_
  unfold b__law_some
  simp only [Ev.wp_bind, Ev.wp_bindS, Ev.wp_ok, Ev.wp_noExc, Ev.wpS_nx, Ev.wpS_rt, Ev.wpS_seq, Ev.wpS_set, Ev.wpS_ret, Ev.wpS_ex, Ev.wpS_pass, Ev.wpS_if, Ev.wpS_raise2, Ev.wpS_raise0, Ev.wpS_par, Ev.wpS_par3, Ev.wpS_asg, Ev.wpS_store, Ev.wp_eC, Ev.wp_eVar, Ev.wp_eBin, Ev.wp_tCmp, Ev.wp_oB, Ev.wp_eOfT, Ev.wp_tChain, Ev.wp_tNotD, Ev.wp_tAndD, Ev.wp_tOrD, Ev.wp_tOfE, Ev.wp_tTrue, Ev.wp_eAndD, Ev.wp_eOrD, Ev.wp_eNotD, Ev.wp_eIfD, Ev.wp_aNil, Ev.wp_aCons, Ev.wp_eFn, Ev.wp_eTup, Ev.wp_newL, Ev.wp_eLst, Ev.wp_eCall1, Ev.wp_eCall2, Ev.wp_eCall3, Ev.wp_eCall4, Ev.wp_oNo, Ev.wp_oSome, Ev.wp_eSl, Ev.wp_eM, Ev.wp_iAny, Ev.wp_iEnT, Ev.wp_iTxt, Ev.wp_iRg1, Ev.wp_eRev, Ev.wp_eLc, Ev.wp_eDc, Ev.wpS_for, List.map_cons, List.map_nil, List.cons_append, List.nil_append, List.replicate_succ, List.replicate_zero, List.getElem?_cons_zero, List.getElem?_cons_succ, List.set_cons_zero, List.set_cons_succ, List.length_cons, List.length_nil, Nat.zero_add, Nat.reduceAdd, Ev.rwipe, if_true, Bool.false_eq_true, if_false, Bool.not_true, Bool.not_false, len_lst h]
  refine wp_mono (take_wp B (by omega) (by omega)) fun d G' hd => ?_
  obtain ⟨s, v, rfl, hv⟩ := hd
  have hv' : v < ds.length := by omega
  rw [ix_lst (s.mv.lst h ht) (at_nat hv')]
  exact ⟨s, List.getElem_mem hv'⟩
/-- something of a tuple of data -/
theorem some_tup {ys : List PyData} (B : Bag G b c) (h1 : 0 < ys.length) (h2 : ys.length < 1000000) : wp (fns (l + 2) 2 [.ref b, .p (.tuple ys)] G) (fun d G' => Same b c G G' ∧ ∃ y, d = .p y ∧ y ∈ ys) NoX := by
  refine loc_same (r := enter 2 0 (b__law_some (fns (l + 1)))) rfl ?_
  refine wp_enter rfl ?_
  unfold b__law_some
  simp only [Ev.wp_bind, Ev.wp_bindS, Ev.wp_ok, Ev.wp_noExc, Ev.wpS_nx, Ev.wpS_rt, Ev.wpS_seq, Ev.wpS_set, Ev.wpS_ret, Ev.wpS_ex, Ev.wpS_pass, Ev.wpS_if, Ev.wpS_raise2, Ev.wpS_raise0, Ev.wpS_par, Ev.wpS_par3, Ev.wpS_asg, Ev.wpS_store, Ev.wp_eC, Ev.wp_eVar, Ev.wp_eBin, Ev.wp_tCmp, Ev.wp_oB, Ev.wp_eOfT, Ev.wp_tChain, Ev.wp_tNotD, Ev.wp_tAndD, Ev.wp_tOrD, Ev.wp_tOfE, Ev.wp_tTrue, Ev.wp_eAndD, Ev.wp_eOrD, Ev.wp_eNotD, Ev.wp_eIfD, Ev.wp_aNil, Ev.wp_aCons, Ev.wp_eFn, Ev.wp_eTup, Ev.wp_newL, Ev.wp_eLst, Ev.wp_eCall1, Ev.wp_eCall2, Ev.wp_eCall3, Ev.wp_eCall4, Ev.wp_oNo, Ev.wp_oSome, Ev.wp_eSl, Ev.wp_eM, Ev.wp_iAny, Ev.wp_iEnT, Ev.wp_iTxt, Ev.wp_iRg1, Ev.wp_eRev, Ev.wp_eLc, Ev.wp_eDc, Ev.wpS_for, List.map_cons, List.map_nil, List.cons_append, List.nil_append, List.replicate_succ, List.replicate_zero, List.getElem?_cons_zero, List.getElem?_cons_succ, List.set_cons_zero, List.set_cons_succ, List.length_cons, List.length_nil, Nat.zero_add, Nat.reduceAdd, Ev.rwipe, if_true, Bool.false_eq_true, if_false, Bool.not_true, Bool.not_false, len_p]
  refine wp_mono (take_wp B (by omega) (by omega)) fun d G' hd => ?_
  obtain ⟨s, v, rfl, hv⟩ := hd
  have hv' : v < (ys.map D.p).length := by rw [List.length_map]; omega
  rw [ix_items (xs := ys.map .p) rfl (at_nat hv')]
  refine ⟨s, ys[v]'(by omega), ?_, List.getElem_mem _⟩
  rw [List.getElem_map]
/-- comprehension with the bag -/
theorem hat_r {lo : Int} {n : Nat} {k : Nat} (hk : k < n) {G : GH} : (srcR lo n).at_ G k = some (dI (lo + k)) := by
  show (if k < n then some (D.p (.int (lo + k))) else none) = _
  rw [if_pos hk]
end
end K00
set_option Elab.async false
set_option linter.all false
set_option maxRecDepth 100000
namespace K00
open PySem PySem.Spec PyProof.Rows Ev
section
variable {b c : Nat} {G G' G2 : GH} {l : Nat}
/-- a comprehension with the bag, of data -/
theorem lc_bag {src : Src} {g : MG} {te : DE} {ρ : Rho} {P : List D → GH → Prop} {X : XP} (xs : List D) (R : Nat → PyData → Prop) (B : Bag G b c) (hn : src.n = xs.length)
    (hat : ∀ G', Mv b c G G' → (∀ k, k < xs.length → src.at_ G' k = xs[k]?) ∧ src.fin G' = true)
    (step : ∀ k (hk : k < xs.length) G', Mv b c G G' → ∃ ρ2, g xs[k] ρ G' = some (ρ2, G') ∧ wp (te ρ2 G') (fun y G3 => Mv b c G' G3 ∧ ∃ z, y = .p z ∧ R k z) NoX)
    (k : ∀ (G' : GH) (ps : List PyData), Mv b c G G' → ps.length = xs.length → (∀ i (h : i < ps.length), R i ps[i]) → P (ps.map .p) G') : wp (lcLoop src g tTrue te ρ src.n 0 [] G) P X := by
  refine lc_inv (fun k acc G' => Mv b c G G' ∧ ∃ ps : List PyData, acc = ps.map .p ∧ ps.length = k ∧ ∀ i (h : i < ps.length), R i ps[i]) ?_ ?_ src.n 0 [] G (Nat.zero_add _) ⟨Mv.refl B, [], rfl, rfl, fun i h => absurd h (Nat.not_lt_zero _)⟩
  · rintro j acc G' hj ⟨m, ps, rfl, hl, hR⟩
    have hj' : j < xs.length := by omega
    obtain ⟨ρ2, h1, h2⟩ := step j hj' G' m
    refine ⟨xs[j], ρ2, by rw [(hat G' m).1 j hj', List.getElem?_eq_getElem hj'], h1, ?_⟩
    rw [wp_tTrue, if_pos rfl]
    refine wp_mono h2 fun y G3 h => ?_
    obtain ⟨m2, z, rfl, hz⟩ := h
    refine ⟨m.trans m2, ps ++ [z], by rw [List.map_append]; rfl, by rw [List.length_append, hl]; rfl, fun i hi => ?_⟩
    by_cases e : i < ps.length
    · rw [List.getElem_append_left e]; exact hR i e
    · have : i = ps.length := by rw [List.length_append, List.length_singleton] at hi; omega
      subst this
      rw [List.getElem_append_right (Nat.le_refl _)]
      simp only [Nat.sub_self, List.getElem_cons_zero]
      rw [hl]; exact hz
  · rintro acc G' ⟨m, ps, rfl, hl, hR⟩
    exact ⟨(hat G' m).2, k G' ps m (by omega) hR⟩
def rangeD (n : Nat) : List D := (List.range n).map fun i : Nat => dI (i : Int)
theorem hat_rg {n : Nat} (G' : GH) : (∀ k, k < (rangeD n).length → (srcR 0 n).at_ G' k = (rangeD n)[k]?) ∧ (srcR 0 n).fin G' = true := by
  refine ⟨fun k hk => ?_, rfl⟩
  have hk' : k < n := by simpa [rangeD] using hk
  rw [hat_r hk']
  unfold rangeD
  rw [List.getElem?_map, List.getElem?_range hk']
  show some (dI (0 + (k : Int))) = some (dI (k : Int))
  rw [Int.zero_add]
theorem rangeD_len (n : Nat) : (rangeD n).length = n := by simp [rangeD]
theorem rangeD_get {n k : Nat} (h : k < (rangeD n).length) : (rangeD n)[k] = dI (k : Int) := by simp [rangeD]
end
end K00
set_option Elab.async false
set_option linter.all false
set_option maxRecDepth 100000
/-! the plain law of k00 -/
namespace K00
open PySem PySem.Spec PyProof.Rows Ev
section
variable {b c : Nat} {G G' G2 : GH} {l : Nat}
def valsP : List PyData := [.int 0, .int 7, .str "x", .none, .tuple [.str "rule", .str "r"]]
def shwB (y : PyData) : Bool := (seqData y).isSome && y.showable && y.canLay0 && decide (y.depth ≤ 64) && decide (y.shown.length ≤ 1000)
theorem shw_of {y : PyData} (h : shwB y = true) : Shw G (.p y) y := by
  unfold shwB at h
  simp only [Bool.and_eq_true, decide_eq_true_eq] at h
  obtain ⟨⟨⟨⟨a, b⟩, c⟩, d⟩, e⟩ := h
  exact ⟨by simp, a, b, c, d, Nat.le_trans e (sz_le (by omega))⟩
theorem shw2 : ∀ x ∈ valsP, ∀ y ∈ valsP, shwB (.tuple [x, y]) = true := by decide +kernel
theorem shw1 : ∀ x ∈ valsP, shwB (.tuple [x]) = true := by decide +kernel
theorem shw0 : shwB (.tuple []) = true := by decide +kernel
theorem alike_ok {e : D} {y : PyData} (w : Wf G) (s : Shw G e y) : fns (l + 1) 3 [e, e] G = .ok (.p (.bool true)) G := by
  refine loc_is (r := enter 2 0 (b__law_alike (fns l))) (fun G => Shw G e y) w s (fun ps h => ?_) fun G w s => ?_
  · obtain ⟨x, rfl⟩ : ∃ x, e = .p x := by
      cases e with
      | p x => exact ⟨x, rfl⟩
      | _ => cases h
    have := s.snap
    rw [snap_p] at this
    cases this
    exact ⟨by simp, s.2, s.3, s.4, s.5, s.6⟩
  refine wp_enter rfl ?_
  unfold b__law_alike
  simp only [Ev.wp_bind, Ev.wp_bindS, Ev.wp_ok, Ev.wp_noExc, Ev.wpS_nx, Ev.wpS_rt, Ev.wpS_seq, Ev.wpS_set, Ev.wpS_ret, Ev.wpS_ex, Ev.wpS_pass, Ev.wpS_if, Ev.wpS_raise2, Ev.wpS_raise0, Ev.wpS_par, Ev.wpS_par3, Ev.wpS_asg, Ev.wpS_store, Ev.wp_eC, Ev.wp_eVar, Ev.wp_eBin, Ev.wp_tCmp, Ev.wp_oB, Ev.wp_eOfT, Ev.wp_tChain, Ev.wp_tNotD, Ev.wp_tAndD, Ev.wp_tOrD, Ev.wp_tOfE, Ev.wp_tTrue, Ev.wp_eAndD, Ev.wp_eOrD, Ev.wp_eNotD, Ev.wp_eIfD, Ev.wp_aNil, Ev.wp_aCons, Ev.wp_eFn, Ev.wp_eTup, Ev.wp_newL, Ev.wp_eLst, Ev.wp_eCall1, Ev.wp_eCall2, Ev.wp_eCall3, Ev.wp_eCall4, Ev.wp_oNo, Ev.wp_oSome, Ev.wp_eSl, Ev.wp_eM, Ev.wp_iAny, Ev.wp_iEnT, Ev.wp_iTxt, Ev.wp_iRg1, Ev.wp_eRev, Ev.wp_eLc, Ev.wp_eDc, Ev.wpS_for, List.map_cons, List.map_nil, List.cons_append, List.nil_append, List.replicate_succ, List.replicate_zero, List.getElem?_cons_zero, List.getElem?_cons_succ, List.set_cons_zero, List.set_cons_succ, List.length_cons, List.length_nil, Nat.zero_add, Nat.reduceAdd, Ev.rwipe, if_true, Bool.false_eq_true, if_false, Bool.not_true, Bool.not_false, repr_ok s, cEq_str, eq_self_ok s]
  simp only [decide_true]
  exact ⟨Grow.refl w, trivial⟩
/-! the new meanings -/
theorem wp_eMk2 {c : Nat} {n1 n2 : Str} {as : DA} {ρ : Rho} {P : D → GH → Prop} {X : XP} : wp (eMk2 c n1 n2 as ρ G) P X = wp (as ρ G) (fun ds G => match ds with | [d1, d2] => P (.ref G.length) (G ++ [.exc c [(n2, d2), (n1, d1)]]) | _ => False) X := by
  unfold eMk2
  rw [wp_bind]
  congr 1
  funext ds G
  rcases ds with _ | ⟨d1, _ | ⟨d2, _ | _⟩⟩ <;> rfl
theorem wp_eMk1 {c : Nat} {n1 : Str} {as : DA} {ρ : Rho} {P : D → GH → Prop} {X : XP} : wp (eMk1 c n1 as ρ G) P X = wp (as ρ G) (fun ds G => match ds with | [d1] => P (.ref G.length) (G ++ [.exc c [(n1, d1)]]) | _ => False) X := by
  unfold eMk1
  rw [wp_bind]
  congr 1
  funext ds G
  rcases ds with _ | ⟨d1, _ | _⟩ <;> rfl
theorem wp_eMk0 {c : Nat} {ρ : Rho} {P : D → GH → Prop} {X : XP} : wp (eMk0 c ρ G) P X = P (.ref G.length) (G ++ [.exc c []]) := rfl
theorem wp_eXa {tab : Nat → Str → Bool} {n : Str} {i : Nat} {ρ : Rho} {P : D → GH → Prop} {X : XP} : wp (eXa tab n (eVar i) ρ G) P X = wp (eVar i ρ G) (fun d G => wp (eXa tab n (eC d) ρ G) P X) X := by
  unfold eXa
  rw [wp_bind]
  rfl
theorem wp_eCn {nm : Nat → Option Str} {i : Nat} {ρ : Rho} {P : D → GH → Prop} {X : XP} : wp (eCn nm (eVar i) ρ G) P X = wp (eVar i ρ G) (fun d G => wp (eCn nm (eC d) ρ G) P X) X := by
  unfold eCn
  rw [wp_bind]
  rfl
theorem xa_ok {tab : Nat → Str → Bool} {n : Str} {i c : Nat} {fs : List (Str × D)} {u : D} {ρ : Rho} (h : G[i]? = some (.exc c fs)) (ht : tab c n = true) (hl : fs.lookup n = some u) : eXa tab n (eC (.ref i)) ρ G = .ok u G := by
  show (match G[i]? with | some (.exc c fs) => if tab c n = true then (match fs.lookup n with | some u => Res.ok u G | none => .stuck) else .stuck | _ => .stuck) = _
  rw [h]
  simp only [ht, if_true, hl]
theorem cn_ok {nm : Nat → Option Str} {i c : Nat} {fs : List (Str × D)} {z : Str} {ρ : Rho} (h : G[i]? = some (.exc c fs)) (hl : fs.lookup cnT = none) (hz : nm c = some z) : eCn nm (eC (.ref i)) ρ G = .ok (.p (.str z)) G := by
  show (match G[i]? with | some (.exc c fs) => if fs.lookup cnT = none then (match nm c with | some z => Res.ok (D.p (.str z)) G | none => .stuck) else .stuck | _ => .stuck) = _
  rw [h]
  simp only [hl, if_true, hz]
theorem isx_ok {nm : Nat → Option Str} {c0 i c : Nat} {fs : List (Str × D)} {z : Str} (h : G[i]? = some (.exc c fs)) (hz : nm c = some z) : fIsX nm c0 [.ref i, .fn c0] G = .ok (.p (.bool true)) G ∧ fIsX nm c0 [.ref i, .ty "ValueError"] G = .ok (.p (.bool true)) G := by
  constructor
  · show (if c0 = c0 then (match G[i]? with | some (.exc c _) => if (nm c).isSome then Res.ok (D.p (.bool true)) G else .stuck | _ => .stuck) else .stuck) = _
    rw [if_pos rfl, h]
    simp only [hz, Option.isSome_some, if_true]
  · show (if "ValueError" = "ValueError" then (match G[i]? with | some (.exc c _) => if (nm c).isSome then Res.ok (D.p (.bool true)) G else .stuck | _ => .stuck) else .stuck) = _
    rw [if_pos rfl, h]
    simp only [hz, Option.isSome_some, if_true]
theorem wpS_try {m : DS} {ks : List Cl} {ρ : Rho} {G : GH} {Q : Post} : wpS (sTry m ks ρ G) Q = wpS (m ρ G) { Q with xc := fun c fs ρ G => wpS (handle ks c fs ρ G) Q } := by
  unfold sTry
  cases m ρ G <;> rfl
theorem wpS_raise1 {c : Nat} {n1 : Str} {as : DA} {ρ : Rho} {G : GH} {Q : Post} : wpS (sRaise1 c n1 as ρ G) Q = wp (as ρ G) (fun ds G => match ds with | [d1] => Q.xc c [(n1, d1)] ρ G | _ => False) (fun c fs G => Q.xc c fs ρ G) := by
  unfold sRaise1
  rw [wp_bindS]
  congr 1
  funext ds G
  rcases ds with _ | ⟨d1, _ | _⟩ <;> rfl
/-- what _law_error gives -/
structure ErOut (G' : GH) (w : Nat) (d : D) : Prop where
  ex : ∃ i c fs y z, d = .mt [.ref i, .p y, .p y, .p (.str z)] ∧ G'[i]? = some (.exc c fs) ∧ nmOf c = some z ∧ fs.lookup cnT = none ∧ shwB y = true ∧ z = (["BadText", "BadTree", "BadLog", "NoCommand", "TooLarge", "Nothing", "SoonError"] : List Str).getD w "SoonError"
theorem exc_at {o : O} : (G ++ [o])[G.length]? = some o := by simp
theorem Grow.exc {c : Nat} {fs : List (Str × PyData)} (w : Wf G) : Grow G (G ++ [O.exc c (fs.map fun p => (p.1, D.p p.2))]) := Grow.push w (by
  simp only [ltO, ltF]
  rw [List.all_eq_true]
  intro p hp
  obtain ⟨q, _, rfl⟩ := List.mem_map.mp hp
  rfl)
theorem gTpL2 {x y : D} {i j k : Nat} {ρ : Rho} (h : lstAt G k = some [x, y]) : gTpL 2 (gsCons (gNm i) (gsCons (gNm j) gsNil)) (.ref k) ρ G = some ((ρ.set i (some x)).set j (some y), G) := by
  show (match lstAt G k with | some ds => if ds.length = 2 then gsCons (gNm i) (gsCons (gNm j) gsNil) ds ρ G else none | none => none) = _
  rw [h]; rfl
end
end K00
set_option Elab.async false
set_option linter.all false
set_option maxRecDepth 100000
namespace K00
open PySem PySem.Spec PyProof.Rows Ev
section
variable {b c : Nat} {G G' G2 : GH} {l : Nat}
theorem c00 : decide (((0 : Nat) : Int) = 0) = true := by decide
theorem c01 : decide (((0 : Nat) : Int) = 1) = false := by decide
theorem c02 : decide (((0 : Nat) : Int) = 2) = false := by decide
theorem c03 : decide (((0 : Nat) : Int) = 3) = false := by decide
theorem c04 : decide (((0 : Nat) : Int) = 4) = false := by decide
theorem c05 : decide (((0 : Nat) : Int) = 5) = false := by decide
theorem c10 : decide (((1 : Nat) : Int) = 0) = false := by decide
theorem c11 : decide (((1 : Nat) : Int) = 1) = true := by decide
theorem c12 : decide (((1 : Nat) : Int) = 2) = false := by decide
theorem c13 : decide (((1 : Nat) : Int) = 3) = false := by decide
theorem c14 : decide (((1 : Nat) : Int) = 4) = false := by decide
theorem c15 : decide (((1 : Nat) : Int) = 5) = false := by decide
theorem c20 : decide (((2 : Nat) : Int) = 0) = false := by decide
theorem c21 : decide (((2 : Nat) : Int) = 1) = false := by decide
theorem c22 : decide (((2 : Nat) : Int) = 2) = true := by decide
theorem c23 : decide (((2 : Nat) : Int) = 3) = false := by decide
theorem c24 : decide (((2 : Nat) : Int) = 4) = false := by decide
theorem c25 : decide (((2 : Nat) : Int) = 5) = false := by decide
theorem c30 : decide (((3 : Nat) : Int) = 0) = false := by decide
theorem c31 : decide (((3 : Nat) : Int) = 1) = false := by decide
theorem c32 : decide (((3 : Nat) : Int) = 2) = false := by decide
theorem c33 : decide (((3 : Nat) : Int) = 3) = true := by decide
theorem c34 : decide (((3 : Nat) : Int) = 4) = false := by decide
theorem c35 : decide (((3 : Nat) : Int) = 5) = false := by decide
theorem c40 : decide (((4 : Nat) : Int) = 0) = false := by decide
theorem c41 : decide (((4 : Nat) : Int) = 1) = false := by decide
theorem c42 : decide (((4 : Nat) : Int) = 2) = false := by decide
theorem c43 : decide (((4 : Nat) : Int) = 3) = false := by decide
theorem c44 : decide (((4 : Nat) : Int) = 4) = true := by decide
theorem c45 : decide (((4 : Nat) : Int) = 5) = false := by decide
theorem c50 : decide (((5 : Nat) : Int) = 0) = false := by decide
theorem c51 : decide (((5 : Nat) : Int) = 1) = false := by decide
theorem c52 : decide (((5 : Nat) : Int) = 2) = false := by decide
theorem c53 : decide (((5 : Nat) : Int) = 3) = false := by decide
theorem c54 : decide (((5 : Nat) : Int) = 4) = false := by decide
theorem c55 : decide (((5 : Nat) : Int) = 5) = true := by decide
theorem c60 : decide (((6 : Nat) : Int) = 0) = false := by decide
theorem c61 : decide (((6 : Nat) : Int) = 1) = false := by decide
theorem c62 : decide (((6 : Nat) : Int) = 2) = false := by decide
theorem c63 : decide (((6 : Nat) : Int) = 3) = false := by decide
theorem c64 : decide (((6 : Nat) : Int) = 4) = false := by decide
theorem c65 : decide (((6 : Nat) : Int) = 5) = false := by decide
theorem out2 {w cN : Nat} {n1 n2 z : Str} {x y : PyData} (wf : Wf G) (hx : x ∈ valsP) (hy : y ∈ valsP) (hz : nmOf cN = some z) (h1 : (cnT == n1) = false) (h2 : (cnT == n2) = false) (e : z = (["BadText", "BadTree", "BadLog", "NoCommand", "TooLarge", "Nothing", "SoonError"] : List Str).getD w "SoonError") :
    Grow G (G ++ [.exc cN [(n2, .p y), (n1, .p x)]]) ∧ (∀ q, mkTup [.ref G.length, mkTup [.p x, .p y], mkTup [.p x, .p y], .p (.str z)] ≠ .p q) ∧ Grow G (G ++ [.exc cN [(n2, .p y), (n1, .p x)]]) ∧ ErOut (G ++ [.exc cN [(n2, .p y), (n1, .p x)]]) w (mkTup [.ref G.length, mkTup [.p x, .p y], mkTup [.p x, .p y], .p (.str z)]) := by
  have g : Grow G (G ++ [.exc cN [(n2, .p y), (n1, .p x)]]) := Grow.exc (fs := [(n2, y), (n1, x)]) wf
  refine ⟨g, fun q h => (by cases h), g, _, cN, _, _, z, rfl, exc_at, hz, ?_, shw2 x hx y hy, e⟩
  rw [List.lookup, h2, List.lookup, h1]; rfl
set_option maxHeartbeats 4000000 in
theorem error_ok {w : Nat} (hw : w < 7) {x y : PyData} (hx : x ∈ valsP) (hy : y ∈ valsP) {k : Nat} (wf : Wf G) (hk : lstAt G k = some [.p x, .p y]) : wp (fns (l + 1) 4 [dI (w : Int), .ref k] G) (fun d G' => Grow G G' ∧ ErOut G' w d) NoX := by
  refine loc_mt (r := enter 2 3 (b__law_error (fns l))) rfl ?_
  refine wp_enter rfl ?_
  unfold b__law_error
  match w, hw with
  | 0, _ =>
    have e1 : ∀ ρ, eXa tabF "line" (eC (.ref G.length)) ρ (G ++ [.exc 8 [("column", .p y), ("line", .p x)]]) = .ok (.p x) (G ++ [.exc 8 [("column", .p y), ("line", .p x)]]) := fun ρ => xa_ok exc_at (by decide +kernel) rfl
    have e2 : ∀ ρ, eXa tabF "column" (eC (.ref G.length)) ρ (G ++ [.exc 8 [("column", .p y), ("line", .p x)]]) = .ok (.p y) (G ++ [.exc 8 [("column", .p y), ("line", .p x)]]) := fun ρ => xa_ok exc_at (by decide +kernel) rfl
    simp only [Ev.wp_bind, Ev.wp_bindS, Ev.wp_ok, Ev.wp_noExc, Ev.wpS_nx, Ev.wpS_rt, Ev.wpS_seq, Ev.wpS_set, Ev.wpS_ret, Ev.wpS_ex, Ev.wpS_pass, Ev.wpS_if, Ev.wpS_raise2, Ev.wpS_raise0, Ev.wpS_par, Ev.wpS_par3, Ev.wpS_asg, Ev.wpS_store, Ev.wp_eC, Ev.wp_eVar, Ev.wp_eBin, Ev.wp_tCmp, Ev.wp_oB, Ev.wp_eOfT, Ev.wp_tChain, Ev.wp_tNotD, Ev.wp_tAndD, Ev.wp_tOrD, Ev.wp_tOfE, Ev.wp_tTrue, Ev.wp_eAndD, Ev.wp_eOrD, Ev.wp_eNotD, Ev.wp_eIfD, Ev.wp_aNil, Ev.wp_aCons, Ev.wp_eFn, Ev.wp_eTup, Ev.wp_newL, Ev.wp_eLst, Ev.wp_eCall1, Ev.wp_eCall2, Ev.wp_eCall3, Ev.wp_eCall4, Ev.wp_oNo, Ev.wp_oSome, Ev.wp_eSl, Ev.wp_eM, Ev.wp_iAny, Ev.wp_iEnT, Ev.wp_iTxt, Ev.wp_iRg1, Ev.wp_eRev, Ev.wp_eLc, Ev.wp_eDc, Ev.wpS_for, List.map_cons, List.map_nil, List.cons_append, List.nil_append, List.replicate_succ, List.replicate_zero, List.getElem?_cons_zero, List.getElem?_cons_succ, List.set_cons_zero, List.set_cons_succ, List.length_cons, List.length_nil, Nat.zero_add, Nat.reduceAdd, Ev.rwipe, if_true, Bool.false_eq_true, if_false, Bool.not_true, Bool.not_false, decide_true, decide_false, Ev.sz0, Ev.sz1, Ev.sz2, Ev.sz3, Ev.sz4, true_and, and_true, Ev.ix0, Ev.ix1, Ev.ix2, Ev.ix3, Ev.len1, Ev.len2, Ev.len3, Ev.len4, Ev.dec1, Ev.dec2, Ev.dec3, Ev.dec4, Ev.isi_tupP, Ev.isi_strP, Ev.isi_intP, Ev.isi_boolP, Ev.cEq_int, Ev.cEq_str, Ev.cLe_int, Ev.cGe_int, Ev.cGt_int, Ev.cLt_int, Ev.wp_iZp, gTpL2 hk, wp_eMk2, wp_eMk1, wp_eMk0, wp_eXa, e1, e2, c00, c01, c02, c03, c04, c05, Bool.false_eq_true, if_false, if_true]
    exact out2 (w := 0) (cN := 8) (n1 := "line") (n2 := "column") (z := "BadText") wf hx hy rfl (by decide +kernel) (by decide +kernel) rfl
  | 1, _ =>
    have e1 : ∀ ρ, eXa tabF "where" (eC (.ref G.length)) ρ (G ++ [.exc 9 [("fault", .p y), ("where", .p x)]]) = .ok (.p x) (G ++ [.exc 9 [("fault", .p y), ("where", .p x)]]) := fun ρ => xa_ok exc_at (by decide +kernel) rfl
    have e2 : ∀ ρ, eXa tabF "fault" (eC (.ref G.length)) ρ (G ++ [.exc 9 [("fault", .p y), ("where", .p x)]]) = .ok (.p y) (G ++ [.exc 9 [("fault", .p y), ("where", .p x)]]) := fun ρ => xa_ok exc_at (by decide +kernel) rfl
    simp only [Ev.wp_bind, Ev.wp_bindS, Ev.wp_ok, Ev.wp_noExc, Ev.wpS_nx, Ev.wpS_rt, Ev.wpS_seq, Ev.wpS_set, Ev.wpS_ret, Ev.wpS_ex, Ev.wpS_pass, Ev.wpS_if, Ev.wpS_raise2, Ev.wpS_raise0, Ev.wpS_par, Ev.wpS_par3, Ev.wpS_asg, Ev.wpS_store, Ev.wp_eC, Ev.wp_eVar, Ev.wp_eBin, Ev.wp_tCmp, Ev.wp_oB, Ev.wp_eOfT, Ev.wp_tChain, Ev.wp_tNotD, Ev.wp_tAndD, Ev.wp_tOrD, Ev.wp_tOfE, Ev.wp_tTrue, Ev.wp_eAndD, Ev.wp_eOrD, Ev.wp_eNotD, Ev.wp_eIfD, Ev.wp_aNil, Ev.wp_aCons, Ev.wp_eFn, Ev.wp_eTup, Ev.wp_newL, Ev.wp_eLst, Ev.wp_eCall1, Ev.wp_eCall2, Ev.wp_eCall3, Ev.wp_eCall4, Ev.wp_oNo, Ev.wp_oSome, Ev.wp_eSl, Ev.wp_eM, Ev.wp_iAny, Ev.wp_iEnT, Ev.wp_iTxt, Ev.wp_iRg1, Ev.wp_eRev, Ev.wp_eLc, Ev.wp_eDc, Ev.wpS_for, List.map_cons, List.map_nil, List.cons_append, List.nil_append, List.replicate_succ, List.replicate_zero, List.getElem?_cons_zero, List.getElem?_cons_succ, List.set_cons_zero, List.set_cons_succ, List.length_cons, List.length_nil, Nat.zero_add, Nat.reduceAdd, Ev.rwipe, if_true, Bool.false_eq_true, if_false, Bool.not_true, Bool.not_false, decide_true, decide_false, Ev.sz0, Ev.sz1, Ev.sz2, Ev.sz3, Ev.sz4, true_and, and_true, Ev.ix0, Ev.ix1, Ev.ix2, Ev.ix3, Ev.len1, Ev.len2, Ev.len3, Ev.len4, Ev.dec1, Ev.dec2, Ev.dec3, Ev.dec4, Ev.isi_tupP, Ev.isi_strP, Ev.isi_intP, Ev.isi_boolP, Ev.cEq_int, Ev.cEq_str, Ev.cLe_int, Ev.cGe_int, Ev.cGt_int, Ev.cLt_int, Ev.wp_iZp, gTpL2 hk, wp_eMk2, wp_eMk1, wp_eMk0, wp_eXa, e1, e2, c10, c11, c12, c13, c14, c15, Bool.false_eq_true, if_false, if_true]
    exact out2 (w := 1) (cN := 9) (n1 := "where") (n2 := "fault") (z := "BadTree") wf hx hy rfl (by decide +kernel) (by decide +kernel) rfl
  | 2, _ =>
    have e1 : ∀ ρ, eXa tabF "number" (eC (.ref G.length)) ρ (G ++ [.exc 10 [("fault", .p y), ("number", .p x)]]) = .ok (.p x) (G ++ [.exc 10 [("fault", .p y), ("number", .p x)]]) := fun ρ => xa_ok exc_at (by decide +kernel) rfl
    have e2 : ∀ ρ, eXa tabF "fault" (eC (.ref G.length)) ρ (G ++ [.exc 10 [("fault", .p y), ("number", .p x)]]) = .ok (.p y) (G ++ [.exc 10 [("fault", .p y), ("number", .p x)]]) := fun ρ => xa_ok exc_at (by decide +kernel) rfl
    simp only [Ev.wp_bind, Ev.wp_bindS, Ev.wp_ok, Ev.wp_noExc, Ev.wpS_nx, Ev.wpS_rt, Ev.wpS_seq, Ev.wpS_set, Ev.wpS_ret, Ev.wpS_ex, Ev.wpS_pass, Ev.wpS_if, Ev.wpS_raise2, Ev.wpS_raise0, Ev.wpS_par, Ev.wpS_par3, Ev.wpS_asg, Ev.wpS_store, Ev.wp_eC, Ev.wp_eVar, Ev.wp_eBin, Ev.wp_tCmp, Ev.wp_oB, Ev.wp_eOfT, Ev.wp_tChain, Ev.wp_tNotD, Ev.wp_tAndD, Ev.wp_tOrD, Ev.wp_tOfE, Ev.wp_tTrue, Ev.wp_eAndD, Ev.wp_eOrD, Ev.wp_eNotD, Ev.wp_eIfD, Ev.wp_aNil, Ev.wp_aCons, Ev.wp_eFn, Ev.wp_eTup, Ev.wp_newL, Ev.wp_eLst, Ev.wp_eCall1, Ev.wp_eCall2, Ev.wp_eCall3, Ev.wp_eCall4, Ev.wp_oNo, Ev.wp_oSome, Ev.wp_eSl, Ev.wp_eM, Ev.wp_iAny, Ev.wp_iEnT, Ev.wp_iTxt, Ev.wp_iRg1, Ev.wp_eRev, Ev.wp_eLc, Ev.wp_eDc, Ev.wpS_for, List.map_cons, List.map_nil, List.cons_append, List.nil_append, List.replicate_succ, List.replicate_zero, List.getElem?_cons_zero, List.getElem?_cons_succ, List.set_cons_zero, List.set_cons_succ, List.length_cons, List.length_nil, Nat.zero_add, Nat.reduceAdd, Ev.rwipe, if_true, Bool.false_eq_true, if_false, Bool.not_true, Bool.not_false, decide_true, decide_false, Ev.sz0, Ev.sz1, Ev.sz2, Ev.sz3, Ev.sz4, true_and, and_true, Ev.ix0, Ev.ix1, Ev.ix2, Ev.ix3, Ev.len1, Ev.len2, Ev.len3, Ev.len4, Ev.dec1, Ev.dec2, Ev.dec3, Ev.dec4, Ev.isi_tupP, Ev.isi_strP, Ev.isi_intP, Ev.isi_boolP, Ev.cEq_int, Ev.cEq_str, Ev.cLe_int, Ev.cGe_int, Ev.cGt_int, Ev.cLt_int, Ev.wp_iZp, gTpL2 hk, wp_eMk2, wp_eMk1, wp_eMk0, wp_eXa, e1, e2, c20, c21, c22, c23, c24, c25, Bool.false_eq_true, if_false, if_true]
    exact out2 (w := 2) (cN := 10) (n1 := "number") (n2 := "fault") (z := "BadLog") wf hx hy rfl (by decide +kernel) (by decide +kernel) rfl
  | 4, _ =>
    have e1 : ∀ ρ, eXa tabF "what" (eC (.ref G.length)) ρ (G ++ [.exc 13 [("limit", .p y), ("what", .p x)]]) = .ok (.p x) (G ++ [.exc 13 [("limit", .p y), ("what", .p x)]]) := fun ρ => xa_ok exc_at (by decide +kernel) rfl
    have e2 : ∀ ρ, eXa tabF "limit" (eC (.ref G.length)) ρ (G ++ [.exc 13 [("limit", .p y), ("what", .p x)]]) = .ok (.p y) (G ++ [.exc 13 [("limit", .p y), ("what", .p x)]]) := fun ρ => xa_ok exc_at (by decide +kernel) rfl
    simp only [Ev.wp_bind, Ev.wp_bindS, Ev.wp_ok, Ev.wp_noExc, Ev.wpS_nx, Ev.wpS_rt, Ev.wpS_seq, Ev.wpS_set, Ev.wpS_ret, Ev.wpS_ex, Ev.wpS_pass, Ev.wpS_if, Ev.wpS_raise2, Ev.wpS_raise0, Ev.wpS_par, Ev.wpS_par3, Ev.wpS_asg, Ev.wpS_store, Ev.wp_eC, Ev.wp_eVar, Ev.wp_eBin, Ev.wp_tCmp, Ev.wp_oB, Ev.wp_eOfT, Ev.wp_tChain, Ev.wp_tNotD, Ev.wp_tAndD, Ev.wp_tOrD, Ev.wp_tOfE, Ev.wp_tTrue, Ev.wp_eAndD, Ev.wp_eOrD, Ev.wp_eNotD, Ev.wp_eIfD, Ev.wp_aNil, Ev.wp_aCons, Ev.wp_eFn, Ev.wp_eTup, Ev.wp_newL, Ev.wp_eLst, Ev.wp_eCall1, Ev.wp_eCall2, Ev.wp_eCall3, Ev.wp_eCall4, Ev.wp_oNo, Ev.wp_oSome, Ev.wp_eSl, Ev.wp_eM, Ev.wp_iAny, Ev.wp_iEnT, Ev.wp_iTxt, Ev.wp_iRg1, Ev.wp_eRev, Ev.wp_eLc, Ev.wp_eDc, Ev.wpS_for, List.map_cons, List.map_nil, List.cons_append, List.nil_append, List.replicate_succ, List.replicate_zero, List.getElem?_cons_zero, List.getElem?_cons_succ, List.set_cons_zero, List.set_cons_succ, List.length_cons, List.length_nil, Nat.zero_add, Nat.reduceAdd, Ev.rwipe, if_true, Bool.false_eq_true, if_false, Bool.not_true, Bool.not_false, decide_true, decide_false, Ev.sz0, Ev.sz1, Ev.sz2, Ev.sz3, Ev.sz4, true_and, and_true, Ev.ix0, Ev.ix1, Ev.ix2, Ev.ix3, Ev.len1, Ev.len2, Ev.len3, Ev.len4, Ev.dec1, Ev.dec2, Ev.dec3, Ev.dec4, Ev.isi_tupP, Ev.isi_strP, Ev.isi_intP, Ev.isi_boolP, Ev.cEq_int, Ev.cEq_str, Ev.cLe_int, Ev.cGe_int, Ev.cGt_int, Ev.cLt_int, Ev.wp_iZp, gTpL2 hk, wp_eMk2, wp_eMk1, wp_eMk0, wp_eXa, e1, e2, c40, c41, c42, c43, c44, c45, Bool.false_eq_true, if_false, if_true]
    exact out2 (w := 4) (cN := 13) (n1 := "what") (n2 := "limit") (z := "TooLarge") wf hx hy rfl (by decide +kernel) (by decide +kernel) rfl
  | 3, _ =>
    have e1 : ∀ ρ, eXa tabF "line" (eC (.ref G.length)) ρ (G ++ [.exc 11 [("line", .p x)]]) = .ok (.p x) (G ++ [.exc 11 [("line", .p x)]]) := fun ρ => xa_ok exc_at (by decide +kernel) rfl
    simp only [Ev.wp_bind, Ev.wp_bindS, Ev.wp_ok, Ev.wp_noExc, Ev.wpS_nx, Ev.wpS_rt, Ev.wpS_seq, Ev.wpS_set, Ev.wpS_ret, Ev.wpS_ex, Ev.wpS_pass, Ev.wpS_if, Ev.wpS_raise2, Ev.wpS_raise0, Ev.wpS_par, Ev.wpS_par3, Ev.wpS_asg, Ev.wpS_store, Ev.wp_eC, Ev.wp_eVar, Ev.wp_eBin, Ev.wp_tCmp, Ev.wp_oB, Ev.wp_eOfT, Ev.wp_tChain, Ev.wp_tNotD, Ev.wp_tAndD, Ev.wp_tOrD, Ev.wp_tOfE, Ev.wp_tTrue, Ev.wp_eAndD, Ev.wp_eOrD, Ev.wp_eNotD, Ev.wp_eIfD, Ev.wp_aNil, Ev.wp_aCons, Ev.wp_eFn, Ev.wp_eTup, Ev.wp_newL, Ev.wp_eLst, Ev.wp_eCall1, Ev.wp_eCall2, Ev.wp_eCall3, Ev.wp_eCall4, Ev.wp_oNo, Ev.wp_oSome, Ev.wp_eSl, Ev.wp_eM, Ev.wp_iAny, Ev.wp_iEnT, Ev.wp_iTxt, Ev.wp_iRg1, Ev.wp_eRev, Ev.wp_eLc, Ev.wp_eDc, Ev.wpS_for, List.map_cons, List.map_nil, List.cons_append, List.nil_append, List.replicate_succ, List.replicate_zero, List.getElem?_cons_zero, List.getElem?_cons_succ, List.set_cons_zero, List.set_cons_succ, List.length_cons, List.length_nil, Nat.zero_add, Nat.reduceAdd, Ev.rwipe, if_true, Bool.false_eq_true, if_false, Bool.not_true, Bool.not_false, decide_true, decide_false, Ev.sz0, Ev.sz1, Ev.sz2, Ev.sz3, Ev.sz4, true_and, and_true, Ev.ix0, Ev.ix1, Ev.ix2, Ev.ix3, Ev.len1, Ev.len2, Ev.len3, Ev.len4, Ev.dec1, Ev.dec2, Ev.dec3, Ev.dec4, Ev.isi_tupP, Ev.isi_strP, Ev.isi_intP, Ev.isi_boolP, Ev.cEq_int, Ev.cEq_str, Ev.cLe_int, Ev.cGe_int, Ev.cGt_int, Ev.cLt_int, Ev.wp_iZp, gTpL2 hk, wp_eMk2, wp_eMk1, wp_eMk0, wp_eXa, e1, c30, c31, c32, c33, c34, c35, Bool.false_eq_true, if_false, if_true]
    have g : Grow G (G ++ [.exc 11 [("line", .p x)]]) := Grow.exc (fs := [("line", x)]) wf
    exact ⟨g, fun q h => (by cases h), g, _, 11, _, _, _, rfl, exc_at, rfl, rfl, shw1 x hx, rfl⟩
  | 5, _ =>
    simp only [Ev.wp_bind, Ev.wp_bindS, Ev.wp_ok, Ev.wp_noExc, Ev.wpS_nx, Ev.wpS_rt, Ev.wpS_seq, Ev.wpS_set, Ev.wpS_ret, Ev.wpS_ex, Ev.wpS_pass, Ev.wpS_if, Ev.wpS_raise2, Ev.wpS_raise0, Ev.wpS_par, Ev.wpS_par3, Ev.wpS_asg, Ev.wpS_store, Ev.wp_eC, Ev.wp_eVar, Ev.wp_eBin, Ev.wp_tCmp, Ev.wp_oB, Ev.wp_eOfT, Ev.wp_tChain, Ev.wp_tNotD, Ev.wp_tAndD, Ev.wp_tOrD, Ev.wp_tOfE, Ev.wp_tTrue, Ev.wp_eAndD, Ev.wp_eOrD, Ev.wp_eNotD, Ev.wp_eIfD, Ev.wp_aNil, Ev.wp_aCons, Ev.wp_eFn, Ev.wp_eTup, Ev.wp_newL, Ev.wp_eLst, Ev.wp_eCall1, Ev.wp_eCall2, Ev.wp_eCall3, Ev.wp_eCall4, Ev.wp_oNo, Ev.wp_oSome, Ev.wp_eSl, Ev.wp_eM, Ev.wp_iAny, Ev.wp_iEnT, Ev.wp_iTxt, Ev.wp_iRg1, Ev.wp_eRev, Ev.wp_eLc, Ev.wp_eDc, Ev.wpS_for, List.map_cons, List.map_nil, List.cons_append, List.nil_append, List.replicate_succ, List.replicate_zero, List.getElem?_cons_zero, List.getElem?_cons_succ, List.set_cons_zero, List.set_cons_succ, List.length_cons, List.length_nil, Nat.zero_add, Nat.reduceAdd, Ev.rwipe, if_true, Bool.false_eq_true, if_false, Bool.not_true, Bool.not_false, decide_true, decide_false, Ev.sz0, Ev.sz1, Ev.sz2, Ev.sz3, Ev.sz4, true_and, and_true, Ev.ix0, Ev.ix1, Ev.ix2, Ev.ix3, Ev.len1, Ev.len2, Ev.len3, Ev.len4, Ev.dec1, Ev.dec2, Ev.dec3, Ev.dec4, Ev.isi_tupP, Ev.isi_strP, Ev.isi_intP, Ev.isi_boolP, Ev.cEq_int, Ev.cEq_str, Ev.cLe_int, Ev.cGe_int, Ev.cGt_int, Ev.cLt_int, Ev.wp_iZp, gTpL2 hk, wp_eMk2, wp_eMk1, wp_eMk0, wp_eXa, c50, c51, c52, c53, c54, c55, Bool.false_eq_true, if_false, if_true]
    have g : Grow G (G ++ [.exc 12 []]) := Grow.exc (fs := []) wf
    exact ⟨g, fun q h => (by cases h), g, _, 12, _, _, _, rfl, exc_at, rfl, rfl, shw0, rfl⟩
  | 6, _ =>
    simp only [Ev.wp_bind, Ev.wp_bindS, Ev.wp_ok, Ev.wp_noExc, Ev.wpS_nx, Ev.wpS_rt, Ev.wpS_seq, Ev.wpS_set, Ev.wpS_ret, Ev.wpS_ex, Ev.wpS_pass, Ev.wpS_if, Ev.wpS_raise2, Ev.wpS_raise0, Ev.wpS_par, Ev.wpS_par3, Ev.wpS_asg, Ev.wpS_store, Ev.wp_eC, Ev.wp_eVar, Ev.wp_eBin, Ev.wp_tCmp, Ev.wp_oB, Ev.wp_eOfT, Ev.wp_tChain, Ev.wp_tNotD, Ev.wp_tAndD, Ev.wp_tOrD, Ev.wp_tOfE, Ev.wp_tTrue, Ev.wp_eAndD, Ev.wp_eOrD, Ev.wp_eNotD, Ev.wp_eIfD, Ev.wp_aNil, Ev.wp_aCons, Ev.wp_eFn, Ev.wp_eTup, Ev.wp_newL, Ev.wp_eLst, Ev.wp_eCall1, Ev.wp_eCall2, Ev.wp_eCall3, Ev.wp_eCall4, Ev.wp_oNo, Ev.wp_oSome, Ev.wp_eSl, Ev.wp_eM, Ev.wp_iAny, Ev.wp_iEnT, Ev.wp_iTxt, Ev.wp_iRg1, Ev.wp_eRev, Ev.wp_eLc, Ev.wp_eDc, Ev.wpS_for, List.map_cons, List.map_nil, List.cons_append, List.nil_append, List.replicate_succ, List.replicate_zero, List.getElem?_cons_zero, List.getElem?_cons_succ, List.set_cons_zero, List.set_cons_succ, List.length_cons, List.length_nil, Nat.zero_add, Nat.reduceAdd, Ev.rwipe, if_true, Bool.false_eq_true, if_false, Bool.not_true, Bool.not_false, decide_true, decide_false, Ev.sz0, Ev.sz1, Ev.sz2, Ev.sz3, Ev.sz4, true_and, and_true, Ev.ix0, Ev.ix1, Ev.ix2, Ev.ix3, Ev.len1, Ev.len2, Ev.len3, Ev.len4, Ev.dec1, Ev.dec2, Ev.dec3, Ev.dec4, Ev.isi_tupP, Ev.isi_strP, Ev.isi_intP, Ev.isi_boolP, Ev.cEq_int, Ev.cEq_str, Ev.cLe_int, Ev.cGe_int, Ev.cGt_int, Ev.cLt_int, Ev.wp_iZp, gTpL2 hk, wp_eMk2, wp_eMk1, wp_eMk0, wp_eXa, c60, c61, c62, c63, c64, c65, Bool.false_eq_true, if_false, if_true]
    have g : Grow G (G ++ [.exc 7 []]) := Grow.exc (fs := []) wf
    exact ⟨g, fun q h => (by cases h), g, _, 7, _, _, _, rfl, exc_at, rfl, rfl, shw0, rfl⟩
end
end K00
set_option Elab.async false
set_option linter.all false
set_option maxRecDepth 100000
namespace K00
open PySem PySem.Spec PyProof.Rows Ev
section
variable {b c : Nat} {G G' G2 : GH} {l : Nat}
theorem no2 {n1 n2 : Str} {x y : D} (h1 : (cnT == n1) = false) (h2 : (cnT == n2) = false) : List.lookup cnT [(n2, y), (n1, x)] = none := by
  rw [List.lookup, h2, List.lookup, h1]; rfl
theorem no1 {n1 : Str} {x : D} (h1 : (cnT == n1) = false) : List.lookup cnT [(n1, x)] = none := by
  rw [List.lookup, h1]; rfl
def rsBody : DS := (sSeq (sIf (tCmp cEq (eVar 0) (eC (.p (.int 0)))) (sRaise2 8 f1_BadText f2_BadText (aCons (eVar 2) (aCons (eVar 3) (aNil)))) (sPass)) (sSeq (sIf (tCmp cEq (eVar 0) (eC (.p (.int 1)))) (sRaise2 9 f1_BadTree f2_BadTree (aCons (eVar 2) (aCons (eVar 3) (aNil)))) (sPass)) (sSeq (sIf (tCmp cEq (eVar 0) (eC (.p (.int 2)))) (sRaise2 10 f1_BadLog f2_BadLog (aCons (eVar 2) (aCons (eVar 3) (aNil)))) (sPass)) (sSeq (sIf (tCmp cEq (eVar 0) (eC (.p (.int 3)))) (sRaise1 11 f1_NoCommand (aCons (eVar 2) (aNil))) (sPass)) (sSeq (sIf (tCmp cEq (eVar 0) (eC (.p (.int 4)))) (sRaise2 13 f1_TooLarge f2_TooLarge (aCons (eVar 2) (aCons (eVar 3) (aNil)))) (sPass)) (sRaise0 12))))))
theorem rs_eq {F : Nat → Fn} : b__law_raised F = sSeq (sAsg (eVar 1) (gTpL 2 (gsCons (gNm 2) (gsCons (gNm 3) (gsNil))))) (sTry rsBody (mute [⟨tk_SoonError, some 4, sCn nmOf 4⟩])) := rfl
theorem hd_ok {c : Nat} {fs : List (Str × D)} {a0 a1 a2 a3 a4 : Option D} {G : GH} {z : Str} (h1 : tk_SoonError c = some true) (h2 : nmOf c = some z) (h3 : fs.lookup cnT = none) : handle (mute [⟨tk_SoonError, some 4, sCn nmOf 4⟩]) c fs [a0, a1, a2, a3, a4] G = .rt (.p (.str z)) G := by
  show (match tk_SoonError c with | some true => runCl ⟨tk_SoonError, some 4, fun c fs ρ G => noX (sCn nmOf 4 c fs ρ G)⟩ c fs [a0, a1, a2, a3, a4] G | some false => _ | none => _) = _
  rw [h1]
  simp only
  unfold runCl sCn
  simp only [List.set_cons_succ, List.set_cons_zero, List.length_cons, List.length_nil, h2, h3]
  rfl
set_option maxHeartbeats 4000000 in
theorem rs_run {w : Nat} (hw : w < 7) {x y : D} {a1 a4 : Option D} {G : GH} {Q : Post} (k : ∀ c fs z, tk_SoonError c = some true → nmOf c = some z → fs.lookup cnT = none → z = (["BadText", "BadTree", "BadLog", "NoCommand", "TooLarge", "Nothing", "Nothing"] : List Str).getD w "Nothing" → Q.xc c fs [some (dI (w : Int)), a1, some x, some y, a4] G) :
    wpS (rsBody [some (dI (w : Int)), a1, some x, some y, a4] G) Q := by
  unfold rsBody
  match w, hw with
  | 0, _ =>
    simp only [Ev.wp_bind, Ev.wp_bindS, Ev.wp_ok, Ev.wp_noExc, Ev.wpS_nx, Ev.wpS_rt, Ev.wpS_seq, Ev.wpS_set, Ev.wpS_ret, Ev.wpS_ex, Ev.wpS_pass, Ev.wpS_if, Ev.wpS_raise2, Ev.wpS_raise0, Ev.wpS_par, Ev.wpS_par3, Ev.wpS_asg, Ev.wpS_store, Ev.wp_eC, Ev.wp_eVar, Ev.wp_eBin, Ev.wp_tCmp, Ev.wp_oB, Ev.wp_eOfT, Ev.wp_tChain, Ev.wp_tNotD, Ev.wp_tAndD, Ev.wp_tOrD, Ev.wp_tOfE, Ev.wp_tTrue, Ev.wp_eAndD, Ev.wp_eOrD, Ev.wp_eNotD, Ev.wp_eIfD, Ev.wp_aNil, Ev.wp_aCons, Ev.wp_eFn, Ev.wp_eTup, Ev.wp_newL, Ev.wp_eLst, Ev.wp_eCall1, Ev.wp_eCall2, Ev.wp_eCall3, Ev.wp_eCall4, Ev.wp_oNo, Ev.wp_oSome, Ev.wp_eSl, Ev.wp_eM, Ev.wp_iAny, Ev.wp_iEnT, Ev.wp_iTxt, Ev.wp_iRg1, Ev.wp_eRev, Ev.wp_eLc, Ev.wp_eDc, Ev.wpS_for, List.map_cons, List.map_nil, List.cons_append, List.nil_append, List.replicate_succ, List.replicate_zero, List.getElem?_cons_zero, List.getElem?_cons_succ, List.set_cons_zero, List.set_cons_succ, List.length_cons, List.length_nil, Nat.zero_add, Nat.reduceAdd, Ev.rwipe, if_true, Bool.false_eq_true, if_false, Bool.not_true, Bool.not_false, decide_true, decide_false, Ev.sz0, Ev.sz1, Ev.sz2, Ev.sz3, Ev.sz4, true_and, and_true, Ev.ix0, Ev.ix1, Ev.ix2, Ev.ix3, Ev.len1, Ev.len2, Ev.len3, Ev.len4, Ev.dec1, Ev.dec2, Ev.dec3, Ev.dec4, Ev.isi_tupP, Ev.isi_strP, Ev.isi_intP, Ev.isi_boolP, Ev.cEq_int, Ev.cEq_str, Ev.cLe_int, Ev.cGe_int, Ev.cGt_int, Ev.cLt_int, Ev.wp_iZp, wpS_raise1, c00, c01, c02, c03, c04, c05, Bool.false_eq_true, if_false, if_true]
    exact k _ _ _ rfl rfl (no2 (by decide +kernel) (by decide +kernel)) rfl
  | 1, _ =>
    simp only [Ev.wp_bind, Ev.wp_bindS, Ev.wp_ok, Ev.wp_noExc, Ev.wpS_nx, Ev.wpS_rt, Ev.wpS_seq, Ev.wpS_set, Ev.wpS_ret, Ev.wpS_ex, Ev.wpS_pass, Ev.wpS_if, Ev.wpS_raise2, Ev.wpS_raise0, Ev.wpS_par, Ev.wpS_par3, Ev.wpS_asg, Ev.wpS_store, Ev.wp_eC, Ev.wp_eVar, Ev.wp_eBin, Ev.wp_tCmp, Ev.wp_oB, Ev.wp_eOfT, Ev.wp_tChain, Ev.wp_tNotD, Ev.wp_tAndD, Ev.wp_tOrD, Ev.wp_tOfE, Ev.wp_tTrue, Ev.wp_eAndD, Ev.wp_eOrD, Ev.wp_eNotD, Ev.wp_eIfD, Ev.wp_aNil, Ev.wp_aCons, Ev.wp_eFn, Ev.wp_eTup, Ev.wp_newL, Ev.wp_eLst, Ev.wp_eCall1, Ev.wp_eCall2, Ev.wp_eCall3, Ev.wp_eCall4, Ev.wp_oNo, Ev.wp_oSome, Ev.wp_eSl, Ev.wp_eM, Ev.wp_iAny, Ev.wp_iEnT, Ev.wp_iTxt, Ev.wp_iRg1, Ev.wp_eRev, Ev.wp_eLc, Ev.wp_eDc, Ev.wpS_for, List.map_cons, List.map_nil, List.cons_append, List.nil_append, List.replicate_succ, List.replicate_zero, List.getElem?_cons_zero, List.getElem?_cons_succ, List.set_cons_zero, List.set_cons_succ, List.length_cons, List.length_nil, Nat.zero_add, Nat.reduceAdd, Ev.rwipe, if_true, Bool.false_eq_true, if_false, Bool.not_true, Bool.not_false, decide_true, decide_false, Ev.sz0, Ev.sz1, Ev.sz2, Ev.sz3, Ev.sz4, true_and, and_true, Ev.ix0, Ev.ix1, Ev.ix2, Ev.ix3, Ev.len1, Ev.len2, Ev.len3, Ev.len4, Ev.dec1, Ev.dec2, Ev.dec3, Ev.dec4, Ev.isi_tupP, Ev.isi_strP, Ev.isi_intP, Ev.isi_boolP, Ev.cEq_int, Ev.cEq_str, Ev.cLe_int, Ev.cGe_int, Ev.cGt_int, Ev.cLt_int, Ev.wp_iZp, wpS_raise1, c10, c11, c12, c13, c14, c15, Bool.false_eq_true, if_false, if_true]
    exact k _ _ _ rfl rfl (no2 (by decide +kernel) (by decide +kernel)) rfl
  | 2, _ =>
    simp only [Ev.wp_bind, Ev.wp_bindS, Ev.wp_ok, Ev.wp_noExc, Ev.wpS_nx, Ev.wpS_rt, Ev.wpS_seq, Ev.wpS_set, Ev.wpS_ret, Ev.wpS_ex, Ev.wpS_pass, Ev.wpS_if, Ev.wpS_raise2, Ev.wpS_raise0, Ev.wpS_par, Ev.wpS_par3, Ev.wpS_asg, Ev.wpS_store, Ev.wp_eC, Ev.wp_eVar, Ev.wp_eBin, Ev.wp_tCmp, Ev.wp_oB, Ev.wp_eOfT, Ev.wp_tChain, Ev.wp_tNotD, Ev.wp_tAndD, Ev.wp_tOrD, Ev.wp_tOfE, Ev.wp_tTrue, Ev.wp_eAndD, Ev.wp_eOrD, Ev.wp_eNotD, Ev.wp_eIfD, Ev.wp_aNil, Ev.wp_aCons, Ev.wp_eFn, Ev.wp_eTup, Ev.wp_newL, Ev.wp_eLst, Ev.wp_eCall1, Ev.wp_eCall2, Ev.wp_eCall3, Ev.wp_eCall4, Ev.wp_oNo, Ev.wp_oSome, Ev.wp_eSl, Ev.wp_eM, Ev.wp_iAny, Ev.wp_iEnT, Ev.wp_iTxt, Ev.wp_iRg1, Ev.wp_eRev, Ev.wp_eLc, Ev.wp_eDc, Ev.wpS_for, List.map_cons, List.map_nil, List.cons_append, List.nil_append, List.replicate_succ, List.replicate_zero, List.getElem?_cons_zero, List.getElem?_cons_succ, List.set_cons_zero, List.set_cons_succ, List.length_cons, List.length_nil, Nat.zero_add, Nat.reduceAdd, Ev.rwipe, if_true, Bool.false_eq_true, if_false, Bool.not_true, Bool.not_false, decide_true, decide_false, Ev.sz0, Ev.sz1, Ev.sz2, Ev.sz3, Ev.sz4, true_and, and_true, Ev.ix0, Ev.ix1, Ev.ix2, Ev.ix3, Ev.len1, Ev.len2, Ev.len3, Ev.len4, Ev.dec1, Ev.dec2, Ev.dec3, Ev.dec4, Ev.isi_tupP, Ev.isi_strP, Ev.isi_intP, Ev.isi_boolP, Ev.cEq_int, Ev.cEq_str, Ev.cLe_int, Ev.cGe_int, Ev.cGt_int, Ev.cLt_int, Ev.wp_iZp, wpS_raise1, c20, c21, c22, c23, c24, c25, Bool.false_eq_true, if_false, if_true]
    exact k _ _ _ rfl rfl (no2 (by decide +kernel) (by decide +kernel)) rfl
  | 3, _ =>
    simp only [Ev.wp_bind, Ev.wp_bindS, Ev.wp_ok, Ev.wp_noExc, Ev.wpS_nx, Ev.wpS_rt, Ev.wpS_seq, Ev.wpS_set, Ev.wpS_ret, Ev.wpS_ex, Ev.wpS_pass, Ev.wpS_if, Ev.wpS_raise2, Ev.wpS_raise0, Ev.wpS_par, Ev.wpS_par3, Ev.wpS_asg, Ev.wpS_store, Ev.wp_eC, Ev.wp_eVar, Ev.wp_eBin, Ev.wp_tCmp, Ev.wp_oB, Ev.wp_eOfT, Ev.wp_tChain, Ev.wp_tNotD, Ev.wp_tAndD, Ev.wp_tOrD, Ev.wp_tOfE, Ev.wp_tTrue, Ev.wp_eAndD, Ev.wp_eOrD, Ev.wp_eNotD, Ev.wp_eIfD, Ev.wp_aNil, Ev.wp_aCons, Ev.wp_eFn, Ev.wp_eTup, Ev.wp_newL, Ev.wp_eLst, Ev.wp_eCall1, Ev.wp_eCall2, Ev.wp_eCall3, Ev.wp_eCall4, Ev.wp_oNo, Ev.wp_oSome, Ev.wp_eSl, Ev.wp_eM, Ev.wp_iAny, Ev.wp_iEnT, Ev.wp_iTxt, Ev.wp_iRg1, Ev.wp_eRev, Ev.wp_eLc, Ev.wp_eDc, Ev.wpS_for, List.map_cons, List.map_nil, List.cons_append, List.nil_append, List.replicate_succ, List.replicate_zero, List.getElem?_cons_zero, List.getElem?_cons_succ, List.set_cons_zero, List.set_cons_succ, List.length_cons, List.length_nil, Nat.zero_add, Nat.reduceAdd, Ev.rwipe, if_true, Bool.false_eq_true, if_false, Bool.not_true, Bool.not_false, decide_true, decide_false, Ev.sz0, Ev.sz1, Ev.sz2, Ev.sz3, Ev.sz4, true_and, and_true, Ev.ix0, Ev.ix1, Ev.ix2, Ev.ix3, Ev.len1, Ev.len2, Ev.len3, Ev.len4, Ev.dec1, Ev.dec2, Ev.dec3, Ev.dec4, Ev.isi_tupP, Ev.isi_strP, Ev.isi_intP, Ev.isi_boolP, Ev.cEq_int, Ev.cEq_str, Ev.cLe_int, Ev.cGe_int, Ev.cGt_int, Ev.cLt_int, Ev.wp_iZp, wpS_raise1, c30, c31, c32, c33, c34, c35, Bool.false_eq_true, if_false, if_true]
    exact k _ _ _ rfl rfl (no1 (by decide +kernel)) rfl
  | 4, _ =>
    simp only [Ev.wp_bind, Ev.wp_bindS, Ev.wp_ok, Ev.wp_noExc, Ev.wpS_nx, Ev.wpS_rt, Ev.wpS_seq, Ev.wpS_set, Ev.wpS_ret, Ev.wpS_ex, Ev.wpS_pass, Ev.wpS_if, Ev.wpS_raise2, Ev.wpS_raise0, Ev.wpS_par, Ev.wpS_par3, Ev.wpS_asg, Ev.wpS_store, Ev.wp_eC, Ev.wp_eVar, Ev.wp_eBin, Ev.wp_tCmp, Ev.wp_oB, Ev.wp_eOfT, Ev.wp_tChain, Ev.wp_tNotD, Ev.wp_tAndD, Ev.wp_tOrD, Ev.wp_tOfE, Ev.wp_tTrue, Ev.wp_eAndD, Ev.wp_eOrD, Ev.wp_eNotD, Ev.wp_eIfD, Ev.wp_aNil, Ev.wp_aCons, Ev.wp_eFn, Ev.wp_eTup, Ev.wp_newL, Ev.wp_eLst, Ev.wp_eCall1, Ev.wp_eCall2, Ev.wp_eCall3, Ev.wp_eCall4, Ev.wp_oNo, Ev.wp_oSome, Ev.wp_eSl, Ev.wp_eM, Ev.wp_iAny, Ev.wp_iEnT, Ev.wp_iTxt, Ev.wp_iRg1, Ev.wp_eRev, Ev.wp_eLc, Ev.wp_eDc, Ev.wpS_for, List.map_cons, List.map_nil, List.cons_append, List.nil_append, List.replicate_succ, List.replicate_zero, List.getElem?_cons_zero, List.getElem?_cons_succ, List.set_cons_zero, List.set_cons_succ, List.length_cons, List.length_nil, Nat.zero_add, Nat.reduceAdd, Ev.rwipe, if_true, Bool.false_eq_true, if_false, Bool.not_true, Bool.not_false, decide_true, decide_false, Ev.sz0, Ev.sz1, Ev.sz2, Ev.sz3, Ev.sz4, true_and, and_true, Ev.ix0, Ev.ix1, Ev.ix2, Ev.ix3, Ev.len1, Ev.len2, Ev.len3, Ev.len4, Ev.dec1, Ev.dec2, Ev.dec3, Ev.dec4, Ev.isi_tupP, Ev.isi_strP, Ev.isi_intP, Ev.isi_boolP, Ev.cEq_int, Ev.cEq_str, Ev.cLe_int, Ev.cGe_int, Ev.cGt_int, Ev.cLt_int, Ev.wp_iZp, wpS_raise1, c40, c41, c42, c43, c44, c45, Bool.false_eq_true, if_false, if_true]
    exact k _ _ _ rfl rfl (no2 (by decide +kernel) (by decide +kernel)) rfl
  | 5, _ =>
    simp only [Ev.wp_bind, Ev.wp_bindS, Ev.wp_ok, Ev.wp_noExc, Ev.wpS_nx, Ev.wpS_rt, Ev.wpS_seq, Ev.wpS_set, Ev.wpS_ret, Ev.wpS_ex, Ev.wpS_pass, Ev.wpS_if, Ev.wpS_raise2, Ev.wpS_raise0, Ev.wpS_par, Ev.wpS_par3, Ev.wpS_asg, Ev.wpS_store, Ev.wp_eC, Ev.wp_eVar, Ev.wp_eBin, Ev.wp_tCmp, Ev.wp_oB, Ev.wp_eOfT, Ev.wp_tChain, Ev.wp_tNotD, Ev.wp_tAndD, Ev.wp_tOrD, Ev.wp_tOfE, Ev.wp_tTrue, Ev.wp_eAndD, Ev.wp_eOrD, Ev.wp_eNotD, Ev.wp_eIfD, Ev.wp_aNil, Ev.wp_aCons, Ev.wp_eFn, Ev.wp_eTup, Ev.wp_newL, Ev.wp_eLst, Ev.wp_eCall1, Ev.wp_eCall2, Ev.wp_eCall3, Ev.wp_eCall4, Ev.wp_oNo, Ev.wp_oSome, Ev.wp_eSl, Ev.wp_eM, Ev.wp_iAny, Ev.wp_iEnT, Ev.wp_iTxt, Ev.wp_iRg1, Ev.wp_eRev, Ev.wp_eLc, Ev.wp_eDc, Ev.wpS_for, List.map_cons, List.map_nil, List.cons_append, List.nil_append, List.replicate_succ, List.replicate_zero, List.getElem?_cons_zero, List.getElem?_cons_succ, List.set_cons_zero, List.set_cons_succ, List.length_cons, List.length_nil, Nat.zero_add, Nat.reduceAdd, Ev.rwipe, if_true, Bool.false_eq_true, if_false, Bool.not_true, Bool.not_false, decide_true, decide_false, Ev.sz0, Ev.sz1, Ev.sz2, Ev.sz3, Ev.sz4, true_and, and_true, Ev.ix0, Ev.ix1, Ev.ix2, Ev.ix3, Ev.len1, Ev.len2, Ev.len3, Ev.len4, Ev.dec1, Ev.dec2, Ev.dec3, Ev.dec4, Ev.isi_tupP, Ev.isi_strP, Ev.isi_intP, Ev.isi_boolP, Ev.cEq_int, Ev.cEq_str, Ev.cLe_int, Ev.cGe_int, Ev.cGt_int, Ev.cLt_int, Ev.wp_iZp, wpS_raise1, c50, c51, c52, c53, c54, c55, Bool.false_eq_true, if_false, if_true]
    exact k _ _ _ rfl rfl (rfl) rfl
  | 6, _ =>
    simp only [Ev.wp_bind, Ev.wp_bindS, Ev.wp_ok, Ev.wp_noExc, Ev.wpS_nx, Ev.wpS_rt, Ev.wpS_seq, Ev.wpS_set, Ev.wpS_ret, Ev.wpS_ex, Ev.wpS_pass, Ev.wpS_if, Ev.wpS_raise2, Ev.wpS_raise0, Ev.wpS_par, Ev.wpS_par3, Ev.wpS_asg, Ev.wpS_store, Ev.wp_eC, Ev.wp_eVar, Ev.wp_eBin, Ev.wp_tCmp, Ev.wp_oB, Ev.wp_eOfT, Ev.wp_tChain, Ev.wp_tNotD, Ev.wp_tAndD, Ev.wp_tOrD, Ev.wp_tOfE, Ev.wp_tTrue, Ev.wp_eAndD, Ev.wp_eOrD, Ev.wp_eNotD, Ev.wp_eIfD, Ev.wp_aNil, Ev.wp_aCons, Ev.wp_eFn, Ev.wp_eTup, Ev.wp_newL, Ev.wp_eLst, Ev.wp_eCall1, Ev.wp_eCall2, Ev.wp_eCall3, Ev.wp_eCall4, Ev.wp_oNo, Ev.wp_oSome, Ev.wp_eSl, Ev.wp_eM, Ev.wp_iAny, Ev.wp_iEnT, Ev.wp_iTxt, Ev.wp_iRg1, Ev.wp_eRev, Ev.wp_eLc, Ev.wp_eDc, Ev.wpS_for, List.map_cons, List.map_nil, List.cons_append, List.nil_append, List.replicate_succ, List.replicate_zero, List.getElem?_cons_zero, List.getElem?_cons_succ, List.set_cons_zero, List.set_cons_succ, List.length_cons, List.length_nil, Nat.zero_add, Nat.reduceAdd, Ev.rwipe, if_true, Bool.false_eq_true, if_false, Bool.not_true, Bool.not_false, decide_true, decide_false, Ev.sz0, Ev.sz1, Ev.sz2, Ev.sz3, Ev.sz4, true_and, and_true, Ev.ix0, Ev.ix1, Ev.ix2, Ev.ix3, Ev.len1, Ev.len2, Ev.len3, Ev.len4, Ev.dec1, Ev.dec2, Ev.dec3, Ev.dec4, Ev.isi_tupP, Ev.isi_strP, Ev.isi_intP, Ev.isi_boolP, Ev.cEq_int, Ev.cEq_str, Ev.cLe_int, Ev.cGe_int, Ev.cGt_int, Ev.cLt_int, Ev.wp_iZp, wpS_raise1, c60, c61, c62, c63, c64, c65, Bool.false_eq_true, if_false, if_true]
    exact k _ _ _ rfl rfl (rfl) rfl
/-- what _law_raised answers -/
theorem raised_ok {w : Nat} (hw : w < 7) {x y : PyData} {k : Nat} (wf : Wf G) (hk : lstAt G k = some [.p x, .p y]) : wp (fns (l + 1) 5 [dI (w : Int), .ref k] G) (fun d G' => G' = G ∧ ∃ q, d = .p q ∧ q = .str ((["BadText", "BadTree", "BadLog", "NoCommand", "TooLarge", "Nothing", "Nothing"] : List Str).getD w "Nothing")) NoX := by
  refine loc_dat (r := enter 2 3 (b__law_raised (fns l))) (fun G => lstAt G k = some [.p x, .p y]) wf hk (fun ps h => by cases h) fun G wf hk => ?_
  refine wp_enter rfl ?_
  rw [rs_eq]
  simp only [Ev.wp_bind, Ev.wp_bindS, Ev.wp_ok, Ev.wp_noExc, Ev.wpS_nx, Ev.wpS_rt, Ev.wpS_seq, Ev.wpS_set, Ev.wpS_ret, Ev.wpS_ex, Ev.wpS_pass, Ev.wpS_if, Ev.wpS_raise2, Ev.wpS_raise0, Ev.wpS_par, Ev.wpS_par3, Ev.wpS_asg, Ev.wpS_store, Ev.wp_eC, Ev.wp_eVar, Ev.wp_eBin, Ev.wp_tCmp, Ev.wp_oB, Ev.wp_eOfT, Ev.wp_tChain, Ev.wp_tNotD, Ev.wp_tAndD, Ev.wp_tOrD, Ev.wp_tOfE, Ev.wp_tTrue, Ev.wp_eAndD, Ev.wp_eOrD, Ev.wp_eNotD, Ev.wp_eIfD, Ev.wp_aNil, Ev.wp_aCons, Ev.wp_eFn, Ev.wp_eTup, Ev.wp_newL, Ev.wp_eLst, Ev.wp_eCall1, Ev.wp_eCall2, Ev.wp_eCall3, Ev.wp_eCall4, Ev.wp_oNo, Ev.wp_oSome, Ev.wp_eSl, Ev.wp_eM, Ev.wp_iAny, Ev.wp_iEnT, Ev.wp_iTxt, Ev.wp_iRg1, Ev.wp_eRev, Ev.wp_eLc, Ev.wp_eDc, Ev.wpS_for, List.map_cons, List.map_nil, List.cons_append, List.nil_append, List.replicate_succ, List.replicate_zero, List.getElem?_cons_zero, List.getElem?_cons_succ, List.set_cons_zero, List.set_cons_succ, List.length_cons, List.length_nil, Nat.zero_add, Nat.reduceAdd, Ev.rwipe, if_true, Bool.false_eq_true, if_false, Bool.not_true, Bool.not_false, decide_true, decide_false, Ev.sz0, Ev.sz1, Ev.sz2, Ev.sz3, Ev.sz4, true_and, and_true, Ev.ix0, Ev.ix1, Ev.ix2, Ev.ix3, Ev.len1, Ev.len2, Ev.len3, Ev.len4, Ev.dec1, Ev.dec2, Ev.dec3, Ev.dec4, Ev.isi_tupP, Ev.isi_strP, Ev.isi_intP, Ev.isi_boolP, Ev.cEq_int, Ev.cEq_str, Ev.cLe_int, Ev.cGe_int, Ev.cGt_int, Ev.cLt_int, Ev.wp_iZp, gTpL2 hk]
  rw [wpS_try]
  refine rs_run hw fun c fs z h1 h2 h3 h4 => ?_
  dsimp only
  rw [hd_ok h1 h2 h3]
  exact ⟨Grow.refl wf, _, rfl, by rw [h4]⟩
end
end K00
set_option Elab.async false
set_option linter.all false
set_option maxRecDepth 100000
namespace K00
open PySem PySem.Spec PyProof.Rows Ev
section
variable {b c : Nat} {G G' G2 : GH} {l : Nat}
theorem abs_ok {i : Int} : fAbs [dI i] G = .ok (dI (if i < 0 then -i else i)) G := rfl
theorem bag_wp (ns : List Int) (hn : ns.length ≤ 63) : wp (fns (l + 1) 0 [.kl (ns.map .int)] []) (fun d G' => ∃ b c, d = .ref b ∧ Bag G' b c) NoX := by
  show wp (loc (enter 1 1 (b__law_bag (fns l))) [.kl (ns.map .int)] []) _ _
  refine loc_mt rfl ?_
  refine wp_enter rfl ?_
  unfold b__law_bag
  simp only [Ev.wp_bind, Ev.wp_bindS, Ev.wp_ok, Ev.wp_noExc, Ev.wpS_nx, Ev.wpS_rt, Ev.wpS_seq, Ev.wpS_set, Ev.wpS_ret, Ev.wpS_ex, Ev.wpS_pass, Ev.wpS_if, Ev.wpS_raise2, Ev.wpS_raise0, Ev.wpS_par, Ev.wpS_par3, Ev.wpS_asg, Ev.wpS_store, Ev.wp_eC, Ev.wp_eVar, Ev.wp_eBin, Ev.wp_tCmp, Ev.wp_oB, Ev.wp_eOfT, Ev.wp_tChain, Ev.wp_tNotD, Ev.wp_tAndD, Ev.wp_tOrD, Ev.wp_tOfE, Ev.wp_tTrue, Ev.wp_eAndD, Ev.wp_eOrD, Ev.wp_eNotD, Ev.wp_eIfD, Ev.wp_aNil, Ev.wp_aCons, Ev.wp_eFn, Ev.wp_eTup, Ev.wp_newL, Ev.wp_eLst, Ev.wp_eCall1, Ev.wp_eCall2, Ev.wp_eCall3, Ev.wp_eCall4, Ev.wp_oNo, Ev.wp_oSome, Ev.wp_eSl, Ev.wp_eM, Ev.wp_iAny, Ev.wp_iEnT, Ev.wp_iTxt, Ev.wp_iRg1, Ev.wp_eRev, Ev.wp_eLc, Ev.wp_eDc, Ev.wpS_for, List.map_cons, List.map_nil, List.cons_append, List.nil_append, List.replicate_succ, List.replicate_zero, List.getElem?_cons_zero, List.getElem?_cons_succ, List.set_cons_zero, List.set_cons_succ, List.length_cons, List.length_nil, Nat.zero_add, Nat.reduceAdd, Ev.rwipe, if_true, Bool.false_eq_true, if_false, Bool.not_true, Bool.not_false]
  have e1 : slD (.kl (ns.map .int)) none (some 63) [] = .ok (.ref 0) [O.lst ((ns.map PyData.int).map .p)] := by
    show newL ((Ev.cutD (ns.map PyData.int) none (some 63)).map .p) [] = _
    rw [show (some (63 : Int)) = some ((63 : Nat) : Int) from rfl, cut_head, List.take_of_length_le (by rw [List.length_map]; exact hn)]
    rfl
  rw [e1, wp_ok]
  have l0 : lstAt [O.lst ((ns.map PyData.int).map .p)] 0 = some ((ns.map PyData.int).map .p) := rfl
  rw [src_lst l0]
  simp only
  have g0 : Grow [] [O.lst ((ns.map PyData.int).map .p)] := Grow.data (G := []) wf_nil
  have zl : ((ns.map PyData.int).map D.p).length ≤ sizeLine := by simp only [List.length_map]; exact sz_le (by omega)
  refine ⟨zl, ?_⟩
  refine lc_map (src := srcL 0 ((ns.map PyData.int).map D.p).length) ((ns.map PyData.int).map D.p) (fun d => match d with | .p (.int i) => .p (.int (if i < 0 then -i else i)) | d => d) g0.wf rfl (hat_l l0) (fun d hd G2 gr => ?_) fun G2 gr => ?_
  · rw [List.map_map] at hd
    obtain ⟨i, _, rfl⟩ := List.mem_map.mp hd
    refine ⟨_, rfl, ?_⟩
    simp only [Ev.wp_bind, Ev.wp_bindS, Ev.wp_ok, Ev.wp_noExc, Ev.wpS_nx, Ev.wpS_rt, Ev.wpS_seq, Ev.wpS_set, Ev.wpS_ret, Ev.wpS_ex, Ev.wpS_pass, Ev.wpS_if, Ev.wpS_raise2, Ev.wpS_raise0, Ev.wpS_par, Ev.wpS_par3, Ev.wpS_asg, Ev.wpS_store, Ev.wp_eC, Ev.wp_eVar, Ev.wp_eBin, Ev.wp_tCmp, Ev.wp_oB, Ev.wp_eOfT, Ev.wp_tChain, Ev.wp_tNotD, Ev.wp_tAndD, Ev.wp_tOrD, Ev.wp_tOfE, Ev.wp_tTrue, Ev.wp_eAndD, Ev.wp_eOrD, Ev.wp_eNotD, Ev.wp_eIfD, Ev.wp_aNil, Ev.wp_aCons, Ev.wp_eFn, Ev.wp_eTup, Ev.wp_newL, Ev.wp_eLst, Ev.wp_eCall1, Ev.wp_eCall2, Ev.wp_eCall3, Ev.wp_eCall4, Ev.wp_oNo, Ev.wp_oSome, Ev.wp_eSl, Ev.wp_eM, Ev.wp_iAny, Ev.wp_iEnT, Ev.wp_iTxt, Ev.wp_iRg1, Ev.wp_eRev, Ev.wp_eLc, Ev.wp_eDc, Ev.wpS_for, List.map_cons, List.map_nil, List.cons_append, List.nil_append, List.replicate_succ, List.replicate_zero, List.getElem?_cons_zero, List.getElem?_cons_succ, List.set_cons_zero, List.set_cons_succ, List.length_cons, List.length_nil, Nat.zero_add, Nat.reduceAdd, Ev.rwipe, if_true, Bool.false_eq_true, if_false, Bool.not_true, Bool.not_false, Function.comp, abs_ok]
    exact ⟨trivial, Grow.refl gr.wf⟩
  · have ec : ((ns.map PyData.int).map D.p).map (fun d => match d with | .p (.int i) => D.p (.int (if i < 0 then -i else i)) | d => d) = (ns.map fun i => if i < 0 then -i else i).map dI := by
      rw [List.map_map, List.map_map, List.map_map]; rfl
    rw [ec]
    have g3 : Grow G2 (G2 ++ [O.lst ((ns.map fun i => if i < 0 then -i else i).map dI)]) := Grow.data' ((ns.map fun i => if i < 0 then -i else i).map .int) gr.wf (by rw [List.map_map (f := PyData.int)]; rfl)
    have g4 : Grow (G2 ++ [O.lst ((ns.map fun i => if i < 0 then -i else i).map dI)]) (G2 ++ [O.lst ((ns.map fun i => if i < 0 then -i else i).map dI)] ++ [O.lst (bagL 0 1234567891 0 G2.length)]) := Grow.push g3.wf (by simp [ltO, bagL, ltL, ltD]; omega)
    refine ⟨sz_le (show 4 ≤ 100000 by omega), ⟨g0.trans (gr.trans (g3.trans g4)), fun x h => (by cases h), (G2 ++ [O.lst ((ns.map fun i => if i < 0 then -i else i).map dI)]).length, G2.length, rfl, ?_⟩⟩
    refine ⟨⟨0, 1234567891, 0, ns.map fun i => if i < 0 then -i else i, at_lst fin_at, at_lst (g4.lst fin_at), by omega, by omega, by omega, by rw [List.length_map]; omega, fun i hi => ?_⟩, by simp, g4.wf⟩
    obtain ⟨j, _, rfl⟩ := List.mem_map.mp hi
    split <;> omega
theorem rg_ok : ∀ k : Nat, k ≤ 1000 → rgOk (k : Int) = true := fun k hk => by
  unfold rgOk
  simp only [Bool.and_eq_true, decide_eq_true_eq]
  omega
theorem cNe_str {x y : Str} : cNe (dS x) (dS y) G = some (!decide (x = y)) := by
  unfold cNe
  rw [cEq_str]; rfl
theorem gTp4 {d1 d2 d3 d4 : D} {ρ : Rho} : gTp 4 (gsCons (gNm 5) (gsCons (gNm 6) (gsCons (gNm 7) (gsCons (gNm 8) gsNil)))) (.mt [d1, d2, d3, d4]) ρ G = some ((((ρ.set 5 (some d1)).set 6 (some d2)).set 7 (some d3)).set 8 (some d4), G) := rfl
def lwT (F : Nat → Fn) : DS := (sSeq (sIf (tOrD (tNotD (tOfE (eFn (fIsX nmOf 7) (aCons (eVar 5) (aCons (eC (.fn 7)) (aNil)))))) (tOrD (tNotD (tOfE (eFn (fIsX nmOf 7) (aCons (eVar 5) (aCons (eC (.ty "ValueError")) (aNil)))))) (tNotD (tOfE (eCall 2 (F 3) (aCons (eVar 6) (aCons (eVar 7) (aNil)))))))) (sRet (eC (.p (.bool false)))) (sPass)) (sIf (tOrD (tCmp cNe (eCn nmOf (eVar 5)) (eVar 8)) (tCmp cNe (eCall 2 (F 5) (aCons (eVar 2) (aCons (eVar 3) (aNil)))) (eIfD (tCmp cLt (eVar 2) (eC (.p (.int 6)))) (eVar 8) (eC (.p (.str "Nothing")))))) (sRet (eC (.p (.bool false)))) (sPass)))
def lwB (F : Nat → Fn) : DS := (sSeq (sSet 3 (eLc (iRg1 (aCons (eC (.p (.int 2))) (aNil))) (gNm 4) (tTrue) (eCall 2 (F 2) (aCons (eVar 1) (aCons (eLst (aCons (eC (.p (.int 0))) (aCons (eC (.p (.int 7))) (aCons (eC (.p (.str "x"))) (aCons (eC (.p .none)) (aCons (eTup (aCons (eC (.p (.str "rule"))) (aCons (eC (.p (.str "r"))) (aNil)))) (aNil))))))) (aNil)))) [4])) (sSeq (sAsg (eCall 2 (F 4) (aCons (eVar 2) (aCons (eVar 3) (aNil)))) (gTp 4 (gsCons (gNm 5) (gsCons (gNm 6) (gsCons (gNm 7) (gsCons (gNm 8) (gsNil))))))) (lwT F)))
theorem lw_eq {F : Nat → Fn} : b_law F = sSeq (sSet 1 (eCall 1 (F 0) (aCons (eVar 0) (aNil)))) (sSeq (sFor (iRg1 (aCons (eC (.p (.int 7))) (aNil))) (gNm 2) (lwB F)) (sRet (eC (.p (.bool true))))) := rfl
theorem word_ok {w : Nat} (hw : w < 7) : (if decide ((w : Int) < 6) = true then (["BadText", "BadTree", "BadLog", "NoCommand", "TooLarge", "Nothing", "SoonError"] : List Str).getD w "SoonError" else "Nothing") = (["BadText", "BadTree", "BadLog", "NoCommand", "TooLarge", "Nothing", "Nothing"] : List Str).getD w "Nothing" := by
  match w, hw with
  | 0, _ => rfl
  | 1, _ => rfl
  | 2, _ => rfl
  | 3, _ => rfl
  | 4, _ => rfl
  | 5, _ => rfl
  | 6, _ => rfl
/-- the two tests -/
theorem lw_t {w : Nat} (hw : w < 7) {H : GH} (B : Bag H b c) {i cc k : Nat} {fs : List (Str × D)} {y : PyData} {z : Str} {x1 x2 : PyData} {a0 a1 a4 : Option D} {Q : Post} (hi : H[i]? = some (.exc cc fs)) (hz : nmOf cc = some z) (hl : fs.lookup cnT = none) (hy : shwB y = true) (ez : z = (["BadText", "BadTree", "BadLog", "NoCommand", "TooLarge", "Nothing", "SoonError"] : List Str).getD w "SoonError") (hk : lstAt H k = some [.p x1, .p x2])
    (q : Q.nx [a0, a1, some (dI (w : Int)), some (.ref k), a4, some (.ref i), some (.p y), some (.p y), some (.p (.str z))] H) :
    wpS (lwT (fns 60) [a0, a1, some (dI (w : Int)), some (.ref k), a4, some (.ref i), some (.p y), some (.p y), some (.p (.str z))] H) Q := by
  have e1 := (isx_ok (c0 := 7) hi hz).1
  have e2 := (isx_ok (c0 := 7) hi hz).2
  have e3 := alike_ok (l := 59) B.wf (shw_of (G := H) hy)
  have e4 : ∀ ρ, eCn nmOf (eC (.ref i)) ρ H = .ok (.p (.str z)) H := fun ρ => cn_ok hi hl hz
  have dz : decide (z = z) = true := decide_eq_true rfl
  unfold lwT
  simp only [Ev.wp_bind, Ev.wp_bindS, Ev.wp_ok, Ev.wp_noExc, Ev.wpS_nx, Ev.wpS_rt, Ev.wpS_seq, Ev.wpS_set, Ev.wpS_ret, Ev.wpS_ex, Ev.wpS_pass, Ev.wpS_if, Ev.wpS_raise2, Ev.wpS_raise0, Ev.wpS_par, Ev.wpS_par3, Ev.wpS_asg, Ev.wpS_store, Ev.wp_eC, Ev.wp_eVar, Ev.wp_eBin, Ev.wp_tCmp, Ev.wp_oB, Ev.wp_eOfT, Ev.wp_tChain, Ev.wp_tNotD, Ev.wp_tAndD, Ev.wp_tOrD, Ev.wp_tOfE, Ev.wp_tTrue, Ev.wp_eAndD, Ev.wp_eOrD, Ev.wp_eNotD, Ev.wp_eIfD, Ev.wp_aNil, Ev.wp_aCons, Ev.wp_eFn, Ev.wp_eTup, Ev.wp_newL, Ev.wp_eLst, Ev.wp_eCall1, Ev.wp_eCall2, Ev.wp_eCall3, Ev.wp_eCall4, Ev.wp_oNo, Ev.wp_oSome, Ev.wp_eSl, Ev.wp_eM, Ev.wp_iAny, Ev.wp_iEnT, Ev.wp_iTxt, Ev.wp_iRg1, Ev.wp_eRev, Ev.wp_eLc, Ev.wp_eDc, Ev.wpS_for, List.map_cons, List.map_nil, List.cons_append, List.nil_append, List.replicate_succ, List.replicate_zero, List.getElem?_cons_zero, List.getElem?_cons_succ, List.set_cons_zero, List.set_cons_succ, List.length_cons, List.length_nil, Nat.zero_add, Nat.reduceAdd, Ev.rwipe, if_true, Bool.false_eq_true, if_false, Bool.not_true, Bool.not_false, decide_true, decide_false, Ev.sz0, Ev.sz1, Ev.sz2, Ev.sz3, Ev.sz4, true_and, and_true, Ev.ix0, Ev.ix1, Ev.ix2, Ev.ix3, Ev.len1, Ev.len2, Ev.len3, Ev.len4, Ev.dec1, Ev.dec2, Ev.dec3, Ev.dec4, Ev.isi_tupP, Ev.isi_strP, Ev.isi_intP, Ev.isi_boolP, Ev.cEq_int, Ev.cEq_str, Ev.cLe_int, Ev.cGe_int, Ev.cGt_int, Ev.cLt_int, Ev.wp_iZp, e1, e2, e3, wp_eCn, e4, cNe_str, dz, Bool.not_true, Bool.not_false, Bool.false_eq_true, if_false, if_true]
  refine wp_mono (raised_ok (l := 59) hw B.wf hk) fun d H' h => ?_
  obtain ⟨rfl, qq, rfl, e⟩ := h
  have ew := word_ok hw
  rw [← ez] at ew
  cases h6 : decide ((w : Int) < 6) with
  | true =>
    rw [h6, if_pos rfl] at ew
    subst e
    rw [← ew]
    simp only [if_true]
    have dz2 : decide (z = z) = true := decide_eq_true rfl
    simp only [cNe_str, dz2, Bool.not_true, Bool.false_eq_true, if_false]
    exact q
  | false =>
    rw [h6, if_neg Bool.false_ne_true] at ew
    subst e
    rw [← ew]
    have dz2 : decide (("Nothing" : Str) = "Nothing") = true := decide_eq_true rfl
    simp only [Bool.false_eq_true, if_false]
    rw [cNe_str, dz2]
    exact q
theorem lw_b {w : Nat} (hw : w < 7) {H : GH} (B : Bag H b c) {a0 a3 a4 a5 a6 a7 a8 : Option D} {Q : Post} (k : ∀ a3 a4 a5 a6 a7 a8 H', Bag H' b c → Q.nx [a0, some (.ref b), some (dI (w : Int)), a3, a4, a5, a6, a7, a8] H') :
    wpS (lwB (fns 60) [a0, some (.ref b), some (dI (w : Int)), a3, a4, a5, a6, a7, a8] H) Q := by
  unfold lwB
  rw [wpS_seq]
  simp only [Ev.wp_bind, Ev.wp_bindS, Ev.wp_ok, Ev.wp_noExc, Ev.wpS_nx, Ev.wpS_rt, Ev.wpS_seq, Ev.wpS_set, Ev.wpS_ret, Ev.wpS_ex, Ev.wpS_pass, Ev.wpS_if, Ev.wpS_raise2, Ev.wpS_raise0, Ev.wpS_par, Ev.wpS_par3, Ev.wpS_asg, Ev.wpS_store, Ev.wp_eC, Ev.wp_eVar, Ev.wp_eBin, Ev.wp_tCmp, Ev.wp_oB, Ev.wp_eOfT, Ev.wp_tChain, Ev.wp_tNotD, Ev.wp_tAndD, Ev.wp_tOrD, Ev.wp_tOfE, Ev.wp_tTrue, Ev.wp_eAndD, Ev.wp_eOrD, Ev.wp_eNotD, Ev.wp_eIfD, Ev.wp_aNil, Ev.wp_aCons, Ev.wp_eFn, Ev.wp_eTup, Ev.wp_newL, Ev.wp_eLst, Ev.wp_eCall1, Ev.wp_eCall2, Ev.wp_eCall3, Ev.wp_eCall4, Ev.wp_oNo, Ev.wp_oSome, Ev.wp_eSl, Ev.wp_eM, Ev.wp_iAny, Ev.wp_iEnT, Ev.wp_iTxt, Ev.wp_iRg1, Ev.wp_eRev, Ev.wp_eLc, Ev.wp_eDc, Ev.wpS_for, List.map_cons, List.map_nil, List.cons_append, List.nil_append, List.replicate_succ, List.replicate_zero, List.getElem?_cons_zero, List.getElem?_cons_succ, List.set_cons_zero, List.set_cons_succ, List.length_cons, List.length_nil, Nat.zero_add, Nat.reduceAdd, Ev.rwipe, if_true, Bool.false_eq_true, if_false, Bool.not_true, Bool.not_false, decide_true, decide_false, Ev.sz0, Ev.sz1, Ev.sz2, Ev.sz3, Ev.sz4, true_and, and_true, Ev.ix0, Ev.ix1, Ev.ix2, Ev.ix3, Ev.len1, Ev.len2, Ev.len3, Ev.len4, Ev.dec1, Ev.dec2, Ev.dec3, Ev.dec4, Ev.isi_tupP, Ev.isi_strP, Ev.isi_intP, Ev.isi_boolP, Ev.cEq_int, Ev.cEq_str, Ev.cLe_int, Ev.cGe_int, Ev.cGt_int, Ev.cLt_int, Ev.wp_iZp]
  refine ⟨rg_ok 2 (by omega), sz_le (show 2 ≤ 100000 by omega), ?_⟩
  refine lc_bag (src := srcR 0 2) (rangeD 2) (fun _ p => p ∈ valsP) B (rangeD_len _).symm (fun G' _ => hat_rg G') (fun j hj G1 m1 => ⟨_, rfl, ?_⟩) fun G1 ps m1 hl hR => ?_
  · simp only [Ev.wp_bind, Ev.wp_bindS, Ev.wp_ok, Ev.wp_noExc, Ev.wpS_nx, Ev.wpS_rt, Ev.wpS_seq, Ev.wpS_set, Ev.wpS_ret, Ev.wpS_ex, Ev.wpS_pass, Ev.wpS_if, Ev.wpS_raise2, Ev.wpS_raise0, Ev.wpS_par, Ev.wpS_par3, Ev.wpS_asg, Ev.wpS_store, Ev.wp_eC, Ev.wp_eVar, Ev.wp_eBin, Ev.wp_tCmp, Ev.wp_oB, Ev.wp_eOfT, Ev.wp_tChain, Ev.wp_tNotD, Ev.wp_tAndD, Ev.wp_tOrD, Ev.wp_tOfE, Ev.wp_tTrue, Ev.wp_eAndD, Ev.wp_eOrD, Ev.wp_eNotD, Ev.wp_eIfD, Ev.wp_aNil, Ev.wp_aCons, Ev.wp_eFn, Ev.wp_eTup, Ev.wp_newL, Ev.wp_eLst, Ev.wp_eCall1, Ev.wp_eCall2, Ev.wp_eCall3, Ev.wp_eCall4, Ev.wp_oNo, Ev.wp_oSome, Ev.wp_eSl, Ev.wp_eM, Ev.wp_iAny, Ev.wp_iEnT, Ev.wp_iTxt, Ev.wp_iRg1, Ev.wp_eRev, Ev.wp_eLc, Ev.wp_eDc, Ev.wpS_for, List.map_cons, List.map_nil, List.cons_append, List.nil_append, List.replicate_succ, List.replicate_zero, List.getElem?_cons_zero, List.getElem?_cons_succ, List.set_cons_zero, List.set_cons_succ, List.length_cons, List.length_nil, Nat.zero_add, Nat.reduceAdd, Ev.rwipe, if_true, Bool.false_eq_true, if_false, Bool.not_true, Bool.not_false, decide_true, decide_false, Ev.sz0, Ev.sz1, Ev.sz2, Ev.sz3, Ev.sz4, true_and, and_true, Ev.ix0, Ev.ix1, Ev.ix2, Ev.ix3, Ev.len1, Ev.len2, Ev.len3, Ev.len4, Ev.dec1, Ev.dec2, Ev.dec3, Ev.dec4, Ev.isi_tupP, Ev.isi_strP, Ev.isi_intP, Ev.isi_boolP, Ev.cEq_int, Ev.cEq_str, Ev.cLe_int, Ev.cGe_int, Ev.cGt_int, Ev.cLt_int, Ev.wp_iZp]
    refine ⟨sz_le (show 5 ≤ 100000 by omega), ?_⟩
    have ev : [D.p (.int 0), D.p (.int 7), D.p (.str "x"), D.p .none, mkTup [D.p (.str "rule"), D.p (.str "r")]] = valsP.map .p := rfl
    rw [ev]
    have g2 : Grow G1 (G1 ++ [O.lst (valsP.map .p)]) := Grow.data m1.bag.wf
    have m2 := Mv.grow m1.bag g2
    refine wp_mono (some_lst (l := 58) m2.bag fin_at (by have := m1.bag.lb; omega) (by decide) (by decide)) fun d G3 hd => ?_
    obtain ⟨s3, hd⟩ := hd
    obtain ⟨z, hz, rfl⟩ := List.mem_map.mp hd
    exact ⟨m2.trans s3.mv, z, rfl, hz⟩
  · rw [rangeD_len] at hl
    match ps, hl, hR with
    | [p1, p2], _, hR =>
      have h1 : p1 ∈ valsP := hR 0 (by simp)
      have h2 : p2 ∈ valsP := hR 1 (by simp)
      have g2 : Grow G1 (G1 ++ [O.lst ([p1, p2].map .p)]) := Grow.data m1.bag.wf
      have m2 := m1.trans (Mv.grow m1.bag g2)
      have l2 : lstAt (G1 ++ [O.lst ([p1, p2].map .p)]) G1.length = some [.p p1, .p p2] := fin_at
      generalize G1 ++ [O.lst ([p1, p2].map .p)] = G2 at m2 l2 ⊢
      refine wp_mono (error_ok (l := 59) hw h1 h2 m2.bag.wf l2) fun d G3 hd => ?_
      obtain ⟨g3, ⟨i, cc, fs, y, z, rfl, hi, hz, hlk, hy, ez⟩⟩ := hd
      have m3 := m2.trans (Mv.grow m2.bag g3)
      rw [gTp4]
      exact lw_t hw m3.bag hi hz hlk hy ez (g3.lst l2) (k _ _ _ _ _ _ _ m3.bag)
theorem law_run (ns : List Int) (hn : ns.length ≤ 63) : wp (enter 1 8 (b_law (fns 60)) [.kl (ns.map .int)] []) (fun d _ => d = .p (.bool true)) NoX := by
  refine wp_enter rfl ?_
  rw [lw_eq]
  rw [Ev.wpS_seq, Ev.wpS_set, wp_eCall1, wp_eVar]
  simp only [List.map_cons, List.map_nil, List.cons_append, List.nil_append, List.getElem?_cons_zero]
  refine wp_mono (bag_wp (l := 59) ns hn) fun d G0 hd => ?_
  obtain ⟨b, c, rfl, B0⟩ := hd
  simp only [List.replicate_succ, List.replicate_zero, List.set_cons_succ, List.set_cons_zero]
  rw [Ev.wpS_seq, Ev.wpS_for, wp_iRg1, wp_eC]
  simp only
  refine ⟨rg_ok 7 (by omega), ?_⟩
  refine for_inv (fun k ρ G' => Bag G' b c ∧ ∃ a2 a3 a4 a5 a6 a7 a8, ρ = [some (.kl (ns.map .int)), some (.ref b), a2, a3, a4, a5, a6, a7, a8]) ?_ ?_ _ 0 _ _ (Nat.zero_add _) ⟨B0, _, _, _, _, _, _, _, rfl⟩
  · rintro j ρ G hj ⟨B, a2, a3, a4, a5, a6, a7, a8, rfl⟩
    have hj' : j < 7 := hj
    refine ⟨dI (0 + (j : Int)), _, _, hat_r hj, rfl, ?_⟩
    rw [Int.zero_add]
    exact lw_b hj' B fun a3 a4 a5 a6 a7 a8 H' B' => ⟨B', _, _, _, _, _, _, _, rfl⟩
  · rintro ρ G ⟨B, a2, a3, a4, a5, a6, a7, a8, rfl⟩
    refine ⟨rfl, ?_⟩
    simp only [Ev.wp_bind, Ev.wp_bindS, Ev.wp_ok, Ev.wp_noExc, Ev.wpS_nx, Ev.wpS_rt, Ev.wpS_seq, Ev.wpS_set, Ev.wpS_ret, Ev.wpS_ex, Ev.wpS_pass, Ev.wpS_if, Ev.wpS_raise2, Ev.wpS_raise0, Ev.wpS_par, Ev.wpS_par3, Ev.wpS_asg, Ev.wpS_store, Ev.wp_eC, Ev.wp_eVar, Ev.wp_eBin, Ev.wp_tCmp, Ev.wp_oB, Ev.wp_eOfT, Ev.wp_tChain, Ev.wp_tNotD, Ev.wp_tAndD, Ev.wp_tOrD, Ev.wp_tOfE, Ev.wp_tTrue, Ev.wp_eAndD, Ev.wp_eOrD, Ev.wp_eNotD, Ev.wp_eIfD, Ev.wp_aNil, Ev.wp_aCons, Ev.wp_eFn, Ev.wp_eTup, Ev.wp_newL, Ev.wp_eLst, Ev.wp_eCall1, Ev.wp_eCall2, Ev.wp_eCall3, Ev.wp_eCall4, Ev.wp_oNo, Ev.wp_oSome, Ev.wp_eSl, Ev.wp_eM, Ev.wp_iAny, Ev.wp_iEnT, Ev.wp_iTxt, Ev.wp_iRg1, Ev.wp_eRev, Ev.wp_eLc, Ev.wp_eDc, Ev.wpS_for, List.map_cons, List.map_nil, List.cons_append, List.nil_append, List.replicate_succ, List.replicate_zero, List.getElem?_cons_zero, List.getElem?_cons_succ, List.set_cons_zero, List.set_cons_succ, List.length_cons, List.length_nil, Nat.zero_add, Nat.reduceAdd, Ev.rwipe, if_true, Bool.false_eq_true, if_false, Bool.not_true, Bool.not_false]
/-- the plain law -/
theorem plain_run (ns : List Int) (hn : ns.length ≤ 63) : ∃ G', enter 1 8 (b_law (fns 60)) [.kl (ns.map .int)] [] = .ok (.p (.bool true)) G' := by
  obtain ⟨d, G', e, rfl⟩ := wp_some (law_run ns hn)
  exact ⟨G', e⟩
end
end K00
set_option Elab.async false
set_option linter.all false
set_option maxRecDepth 100000
/-! that the text keeps its meaning, printed by gen00.py -/
namespace K00
open PySem PySem.Spec PyProof.Rows L2 Ev
def topS (i : Nat) : Stmt := PySem.Challenge.pw_soonsure_k00_errors_with_their_data.main.body.getD i (.Pass ⟨0, 0, 0, 0⟩)
def names : List Str := List.map Str.ofString ["_law_bag", "_law_take", "_law_some", "_law_alike", "_law_error", "_law_raised", "law", "SoonError", "BadText", "BadTree", "BadLog", "NoCommand", "Nothing", "TooLarge"]
theorem boot_ValueError : bootBuiltins "ValueError" = some (.type "ValueError") := by decide +kernel
theorem boot_abs : bootBuiltins "abs" = some (.builtin "abs") := by decide +kernel
theorem boot_int : bootBuiltins "int" = some (.type "int") := by decide +kernel
theorem boot_isinstance : bootBuiltins "isinstance" = some (.builtin "isinstance") := by decide +kernel
theorem boot_len : bootBuiltins "len" = some (.builtin "len") := by decide +kernel
theorem boot_range : bootBuiltins "range" = some (.type "range") := by decide +kernel
theorem boot_repr : bootBuiltins "repr" = some (.builtin "repr") := by decide +kernel
abbrev bmB : List Value := [.type "ValueError", .type "Exception", .type "BaseException", .type "object"]
structure Facts (P : Program) (w : World) (K : PySem.W.Frag) (mg : Str → Option Value) : Prop where
  z_ValueError : mg "ValueError" = none
  z_abs : mg "abs" = none
  z_int : mg "int" = none
  z_isinstance : mg "isinstance" = none
  z_len : mg "len" = none
  z_range : mg "range" = none
  z_repr : mg "repr" = none
  k_SoonError : ClsAt K "SoonError"
  k_BadText : ClsAt K "BadText"
  k_BadTree : ClsAt K "BadTree"
  k_BadLog : ClsAt K "BadLog"
  k_NoCommand : ClsAt K "NoCommand"
  k_Nothing : ClsAt K "Nothing"
  k_TooLarge : ClsAt K "TooLarge"
  e_BadText : Er2 P K mg (faOf K names) 8 "BadText" f1_BadText f2_BadText
  e_BadTree : Er2 P K mg (faOf K names) 9 "BadTree" f1_BadTree f2_BadTree
  e_BadLog : Er2 P K mg (faOf K names) 10 "BadLog" f1_BadLog f2_BadLog
  e_TooLarge : Er2 P K mg (faOf K names) 13 "TooLarge" f1_TooLarge f2_TooLarge
  e_NoCommand : Er1 P K mg (faOf K names) 11 "NoCommand" f1_NoCommand
  n_SoonError : CnC K (adr (faOf K names) 7) "SoonError" ∧ (∃ f, MethN K (adr (faOf K names) 7) f) ∧ PySem.W.kitOne K (.ref (adr (faOf K names) 7)) (.ref (adr (faOf K names) 7)) = some true ∧ PySem.W.kitOne K (.ref (adr (faOf K names) 7)) (.type "ValueError") = some true
  n_BadText : CnC K (adr (faOf K names) 8) "BadText" ∧ (∃ f, MethN K (adr (faOf K names) 8) f) ∧ PySem.W.kitOne K (.ref (adr (faOf K names) 8)) (.ref (adr (faOf K names) 7)) = some true ∧ PySem.W.kitOne K (.ref (adr (faOf K names) 8)) (.type "ValueError") = some true
  n_BadTree : CnC K (adr (faOf K names) 9) "BadTree" ∧ (∃ f, MethN K (adr (faOf K names) 9) f) ∧ PySem.W.kitOne K (.ref (adr (faOf K names) 9)) (.ref (adr (faOf K names) 7)) = some true ∧ PySem.W.kitOne K (.ref (adr (faOf K names) 9)) (.type "ValueError") = some true
  n_BadLog : CnC K (adr (faOf K names) 10) "BadLog" ∧ (∃ f, MethN K (adr (faOf K names) 10) f) ∧ PySem.W.kitOne K (.ref (adr (faOf K names) 10)) (.ref (adr (faOf K names) 7)) = some true ∧ PySem.W.kitOne K (.ref (adr (faOf K names) 10)) (.type "ValueError") = some true
  n_NoCommand : CnC K (adr (faOf K names) 11) "NoCommand" ∧ (∃ f, MethN K (adr (faOf K names) 11) f) ∧ PySem.W.kitOne K (.ref (adr (faOf K names) 11)) (.ref (adr (faOf K names) 7)) = some true ∧ PySem.W.kitOne K (.ref (adr (faOf K names) 11)) (.type "ValueError") = some true
  n_Nothing : CnC K (adr (faOf K names) 12) "Nothing" ∧ (∃ f, MethN K (adr (faOf K names) 12) f) ∧ PySem.W.kitOne K (.ref (adr (faOf K names) 12)) (.ref (adr (faOf K names) 7)) = some true ∧ PySem.W.kitOne K (.ref (adr (faOf K names) 12)) (.type "ValueError") = some true
  n_TooLarge : CnC K (adr (faOf K names) 13) "TooLarge" ∧ (∃ f, MethN K (adr (faOf K names) 13) f) ∧ PySem.W.kitOne K (.ref (adr (faOf K names) 13)) (.ref (adr (faOf K names) 7)) = some true ∧ PySem.W.kitOne K (.ref (adr (faOf K names) 13)) (.type "ValueError") = some true
  e_SoonError : Er0 K mg (faOf K names) 7 "SoonError" bmB
  e_Nothing : Er0 K mg (faOf K names) 12 "Nothing" bmB
  t_SoonError : ∀ (c : Nat) (A : Addr) (b : Bool), faOf K names c = some A → tk_SoonError c = some b → PySem.W.exmOne K (.ref A) (.ref (adr (faOf K names) 7)) = some b
  d__law_bag : DefAt K "_law_bag" "_law_bag" (topS 9)
  d__law_take : DefAt K "_law_take" "_law_take" (topS 10)
  d__law_some : DefAt K "_law_some" "_law_some" (topS 11)
  d__law_alike : DefAt K "_law_alike" "_law_alike" (topS 12)
  d__law_error : DefAt K "_law_error" "_law_error" (topS 13)
  d__law_raised : DefAt K "_law_raised" "_law_raised" (topS 14)
  d_law : DefAt K "law" "law" (topS 15)
variable {P : Program} {w : World} {K : PySem.W.Frag} {mg : Str → Option Value} {base : Heap} {k : Nat} {F : Nat → Fn}
theorem nmOk (T : Facts P w K mg) : NmOk K (faOf K names) nmOf := fun c z h => by
  match c, h with
  | 7, h => cases h; obtain ⟨f, hf⟩ := T.n_SoonError.2.1; exact ⟨_, f, T.e_SoonError.at_, T.n_SoonError.1, hf⟩
  | 8, h => cases h; obtain ⟨f, hf⟩ := T.n_BadText.2.1; exact ⟨_, f, T.e_BadText.at_, T.n_BadText.1, hf⟩
  | 9, h => cases h; obtain ⟨f, hf⟩ := T.n_BadTree.2.1; exact ⟨_, f, T.e_BadTree.at_, T.n_BadTree.1, hf⟩
  | 10, h => cases h; obtain ⟨f, hf⟩ := T.n_BadLog.2.1; exact ⟨_, f, T.e_BadLog.at_, T.n_BadLog.1, hf⟩
  | 11, h => cases h; obtain ⟨f, hf⟩ := T.n_NoCommand.2.1; exact ⟨_, f, T.e_NoCommand.at_, T.n_NoCommand.1, hf⟩
  | 12, h => cases h; obtain ⟨f, hf⟩ := T.n_Nothing.2.1; exact ⟨_, f, T.e_Nothing.at_, T.n_Nothing.1, hf⟩
  | 13, h => cases h; obtain ⟨f, hf⟩ := T.n_TooLarge.2.1; exact ⟨_, f, T.e_TooLarge.at_, T.n_TooLarge.1, hf⟩
theorem kindOk (T : Facts P w K mg) : KindOk K (faOf K names) nmOf (adr (faOf K names) 7) := fun c z h => by
  match c, h with
  | 7, h => cases h; exact ⟨_, T.e_SoonError.at_, T.n_SoonError.1.isC, T.n_SoonError.2.2.1, T.n_SoonError.2.2.2⟩
  | 8, h => cases h; exact ⟨_, T.e_BadText.at_, T.n_BadText.1.isC, T.n_BadText.2.2.1, T.n_BadText.2.2.2⟩
  | 9, h => cases h; exact ⟨_, T.e_BadTree.at_, T.n_BadTree.1.isC, T.n_BadTree.2.2.1, T.n_BadTree.2.2.2⟩
  | 10, h => cases h; exact ⟨_, T.e_BadLog.at_, T.n_BadLog.1.isC, T.n_BadLog.2.2.1, T.n_BadLog.2.2.2⟩
  | 11, h => cases h; exact ⟨_, T.e_NoCommand.at_, T.n_NoCommand.1.isC, T.n_NoCommand.2.2.1, T.n_NoCommand.2.2.2⟩
  | 12, h => cases h; exact ⟨_, T.e_Nothing.at_, T.n_Nothing.1.isC, T.n_Nothing.2.2.1, T.n_Nothing.2.2.2⟩
  | 13, h => cases h; exact ⟨_, T.e_TooLarge.at_, T.n_TooLarge.1.isC, T.n_TooLarge.2.2.1, T.n_TooLarge.2.2.2⟩
theorem xfOk (T : Facts P w K mg) : ∀ c n, tabF c n = true → ∃ A, faOf K names c = some A ∧ XfC K A ∧ PySem.W.findIn K (.ref A) n = some none := fun c n h => by
  have h := of_decide_eq_true h
  unfold tabL at h
  simp only [List.mem_cons, List.not_mem_nil, or_false, Prod.mk.injEq] at h
  rcases h with ⟨rfl, rfl⟩ | ⟨rfl, rfl⟩ | ⟨rfl, rfl⟩ | ⟨rfl, rfl⟩ | ⟨rfl, rfl⟩ | ⟨rfl, rfl⟩ | ⟨rfl, rfl⟩ | ⟨rfl, rfl⟩ | ⟨rfl, rfl⟩
  · exact ⟨_, T.e_BadText.at_, T.e_BadText.xf, T.e_BadText.n1⟩
  · exact ⟨_, T.e_BadText.at_, T.e_BadText.xf, T.e_BadText.n2⟩
  · exact ⟨_, T.e_BadTree.at_, T.e_BadTree.xf, T.e_BadTree.n1⟩
  · exact ⟨_, T.e_BadTree.at_, T.e_BadTree.xf, T.e_BadTree.n2⟩
  · exact ⟨_, T.e_BadLog.at_, T.e_BadLog.xf, T.e_BadLog.n1⟩
  · exact ⟨_, T.e_BadLog.at_, T.e_BadLog.xf, T.e_BadLog.n2⟩
  · exact ⟨_, T.e_NoCommand.at_, T.e_NoCommand.xf, T.e_NoCommand.n1⟩
  · exact ⟨_, T.e_TooLarge.at_, T.e_TooLarge.xf, T.e_TooLarge.n1⟩
  · exact ⟨_, T.e_TooLarge.at_, T.e_TooLarge.xf, T.e_TooLarge.n2⟩
theorem S__law_bag : FnScope ["script", "cell"] ["script"] (defScope (topS 9)) := ⟨rfl, rfl, rfl, by decide +kernel, rfl, by decide +kernel, by decide +kernel⟩
theorem w__law_bag (T : Facts P w K mg) (hk1 : 1 ≤ k) {f : Addr} (hh : ∀ X : Cx, ∀ W, X.prog = P → X.w = w → X.K = K → X.mg = mg → X.base = base → Room k X.A → X.A.guards = some [] → X.calm = true → Takes X W → Here X W (faOf K names) k ar F names 14) :
    BodyOk P w K mg base (faOf K names) k ["script", "cell"] "_law_bag" (topS 9) f (b__law_bag F) := by
  intro cdv A fr s H E hr hG
  have S := S__law_bag
  have h := hh _ (fun cls d _ H' => E cls d H') rfl rfl rfl rfl rfl hr hG rfl (takes_of (X := cxOf (L2.CX P w) P w K mg base ["script", "cell"] "_law_bag" (defScope (topS 9)) f cdv A fr s H E) rfl rfl rfl rfl)
  have hp : PassesOwn (model P w) (cxOf (L2.CX P w) P w K mg base ["script", "cell"] "_law_bag" (defScope (topS 9)) f cdv A fr s H E).A (cxOf (L2.CX P w) P w K mg base ["script", "cell"] "_law_bag" (defScope (topS 9)) f cdv A fr s H E).env (cxOf (L2.CX P w) P w K mg base ["script", "cell"] "_law_bag" (defScope (topS 9)) f cdv A fr s H E).xe := passes_of rfl
  exact ss_one (ss_ret (se_lst (sa_cons (se_int) (sa_cons (se_int) (sa_cons (se_int) (sa_cons (se_lc rfl S.nd (si_any (se_sl (se_var (i := 0) rfl (.inl rfl)) (so_none) (so_some (se_int)))) (own := [("cell", 1)]) (ws := [1]) (blkOk_by (by rfl)) (by decide) (fun s0 H0 C0 cl0 fp0 => sg_name (i := 1) S.nd rfl (.inl rfl)) (fun s0 H0 C0 cl0 fp0 => sts_nil) (fun s0 H0 C0 cl0 fp0 => se_blt call_abs cl_abs rfl T.z_abs boot_abs (sa_cons (se_var (i := 1) rfl (.inl rfl)) (sa_nil)))) (sa_nil)))))))
theorem S__law_take : FnScope ["bag", "many", "cell", "stirred", "value", "begin", "second"] ["bag", "many"] (defScope (topS 10)) := ⟨rfl, rfl, rfl, by decide +kernel, rfl, by decide +kernel, by decide +kernel⟩
theorem w__law_take (T : Facts P w K mg) (hk1 : 1 ≤ k) {f : Addr} (hh : ∀ X : Cx, ∀ W, X.prog = P → X.w = w → X.K = K → X.mg = mg → X.base = base → Room k X.A → X.A.guards = some [] → X.calm = true → Takes X W → Here X W (faOf K names) k ar F names 14) :
    BodyOk P w K mg base (faOf K names) k ["bag", "many", "cell", "stirred", "value", "begin", "second"] "_law_take" (topS 10) f (b__law_take F) := by
  intro cdv A fr s H E hr hG
  have S := S__law_take
  have h := hh _ (fun cls d _ H' => E cls d H') rfl rfl rfl rfl rfl hr hG rfl (takes_of (X := cxOf (L2.CX P w) P w K mg base ["bag", "many", "cell", "stirred", "value", "begin", "second"] "_law_take" (defScope (topS 10)) f cdv A fr s H E) rfl rfl rfl rfl)
  have hp : PassesOwn (model P w) (cxOf (L2.CX P w) P w K mg base ["bag", "many", "cell", "stirred", "value", "begin", "second"] "_law_take" (defScope (topS 10)) f cdv A fr s H E).A (cxOf (L2.CX P w) P w K mg base ["bag", "many", "cell", "stirred", "value", "begin", "second"] "_law_take" (defScope (topS 10)) f cdv A fr s H E).env (cxOf (L2.CX P w) P w K mg base ["bag", "many", "cell", "stirred", "value", "begin", "second"] "_law_take" (defScope (topS 10)) f cdv A fr s H E).xe := passes_of rfl
  exact ss_cons (ss_if (st_cmp (ox_eq h.u64) cd_eq (se_ix (ox_ix h.u64) od_ixA (se_var (i := 0) rfl (.inl rfl)) (se_int)) (se_int) (nomark _)) (ss_cons (ss_set (i := 2) S.nd rfl (.inl rfl) (se_ix (ox_ix h.u64) od_ixA (se_bin ox_add od_add (se_sl (se_ix (ox_ix h.u64) od_ixA (se_var (i := 0) rfl (.inl rfl)) (se_int)) (so_some (se_ix (ox_ix h.u64) od_ixA (se_var (i := 0) rfl (.inl rfl)) (se_int))) (so_none)) (se_lst (sa_cons (se_int) (sa_nil)))) (se_int))) (ss_cons (ss_augI (se_var (i := 0) rfl (.inl rfl)) (se_int) (se_int) ip_add) (ss_cons (ss_if (st_cmp ox_ge cd_ge (se_var (i := 2) rfl (.inl rfl)) (se_bin op_pow od_pow (se_int) (se_int)) (nomark _)) (ss_one (ss_store (se_var (i := 2) rfl (.inl rfl)) (se_var (i := 0) rfl (.inl rfl)) (se_int) (set_any h.u64) sd_any)) (ss_nil)) (ss_cons (ss_set (i := 3) S.nd rfl (.inl rfl) (se_bin ox_add od_add (se_bin ox_add od_add (se_bin ox_mul od_mul (se_ix (ox_ix h.u64) od_ixA (se_var (i := 0) rfl (.inl rfl)) (se_int)) (se_int)) (se_bin op_modN od_mod (se_bty call_int1 cl_int rfl T.z_int boot_int (sa_cons (se_var (i := 2) rfl (.inl rfl)) (sa_nil))) (se_int))) (se_bin ox_mul od_mul (se_int) (se_ix (ox_ix h.u64) od_ixA (se_var (i := 0) rfl (.inl rfl)) (se_int))))) (ss_one (ss_store (se_bin op_modN od_mod (se_bty call_int1 cl_int rfl T.z_int boot_int (sa_cons (se_var (i := 3) rfl (.inl rfl)) (sa_nil))) (se_int)) (se_var (i := 0) rfl (.inl rfl)) (se_int) (set_any h.u64) sd_any)))))) (ss_nil)) (ss_cons (ss_if (st_cmp ox_gt cd_gt (se_ix (ox_ix h.u64) od_ixA (se_var (i := 0) rfl (.inl rfl)) (se_int)) (se_int) (nomark _)) (ss_cons (ss_set (i := 4) S.nd rfl (.inl rfl) (se_bin op_modN od_mod (se_bty call_int1 cl_int rfl T.z_int boot_int (sa_cons (se_ix (ox_ix h.u64) od_ixA (se_var (i := 0) rfl (.inl rfl)) (se_int)) (sa_nil))) (se_var (i := 1) rfl (.inl rfl)))) (ss_cons (ss_store (se_bin op_fdivN od_fdiv (se_bty call_int1 cl_int rfl T.z_int boot_int (sa_cons (se_ix (ox_ix h.u64) od_ixA (se_var (i := 0) rfl (.inl rfl)) (se_int)) (sa_nil))) (se_var (i := 1) rfl (.inl rfl))) (se_var (i := 0) rfl (.inl rfl)) (se_int) (set_any h.u64) sd_any) (ss_one (ss_ret (se_var (i := 4) rfl (.inl rfl)))))) (ss_nil)) (ss_cons (ss_set (i := 5) S.nd rfl (.inl rfl) (se_bin op_modN od_mod (se_bty call_int1 cl_int rfl T.z_int boot_int (sa_cons (se_bin ox_mul od_mul (se_bin ox_add od_add (se_ix (ox_ix h.u64) od_ixA (se_var (i := 0) rfl (.inl rfl)) (se_int)) (se_int)) (se_int)) (sa_nil))) (se_int))) (ss_cons (ss_set (i := 6) S.nd rfl (.inl rfl) (se_bin op_modN od_mod (se_bty call_int1 cl_int rfl T.z_int boot_int (sa_cons (se_bin ox_mul od_mul (se_bin op_modN od_mod (se_bty call_int1 cl_int rfl T.z_int boot_int (sa_cons (se_bin ox_mul od_mul (se_var (i := 5) rfl (.inl rfl)) (se_var (i := 5) rfl (.inl rfl))) (sa_nil))) (se_int)) (se_int)) (sa_nil))) (se_int))) (ss_one (ss_ret (se_bin op_modN od_mod (se_bty call_int1 cl_int rfl T.z_int boot_int (sa_cons (se_bin op_fdivN od_fdiv (se_var (i := 6) rfl (.inl rfl)) (se_int)) (sa_nil))) (se_var (i := 1) rfl (.inl rfl))))))))
theorem S__law_some : FnScope ["bag", "things"] ["bag", "things"] (defScope (topS 11)) := ⟨rfl, rfl, rfl, by decide +kernel, rfl, by decide +kernel, by decide +kernel⟩
theorem w__law_some (T : Facts P w K mg) (hk1 : 1 ≤ k) {f : Addr} (hh : ∀ X : Cx, ∀ W, X.prog = P → X.w = w → X.K = K → X.mg = mg → X.base = base → Room k X.A → X.A.guards = some [] → X.calm = true → Takes X W → Here X W (faOf K names) k ar F names 14) :
    BodyOk P w K mg base (faOf K names) k ["bag", "things"] "_law_some" (topS 11) f (b__law_some F) := by
  intro cdv A fr s H E hr hG
  have S := S__law_some
  have h := hh _ (fun cls d _ H' => E cls d H') rfl rfl rfl rfl rfl hr hG rfl (takes_of (X := cxOf (L2.CX P w) P w K mg base ["bag", "things"] "_law_some" (defScope (topS 11)) f cdv A fr s H E) rfl rfl rfl rfl)
  have hp : PassesOwn (model P w) (cxOf (L2.CX P w) P w K mg base ["bag", "things"] "_law_some" (defScope (topS 11)) f cdv A fr s H E).A (cxOf (L2.CX P w) P w K mg base ["bag", "things"] "_law_some" (defScope (topS 11)) f cdv A fr s H E).env (cxOf (L2.CX P w) P w K mg base ["bag", "things"] "_law_some" (defScope (topS 11)) f cdv A fr s H E).xe := passes_of rfl
  exact ss_one (ss_ret (se_ix (ox_ix h.u64) od_ixA (se_var (i := 1) rfl (.inl rfl)) (h_call h 1 rfl (by decide) rfl (sa_cons (se_var (i := 0) rfl (.inl rfl)) (sa_cons (se_blt call_lenX cl_len rfl T.z_len boot_len (sa_cons (se_var (i := 1) rfl (.inl rfl)) (sa_nil))) (sa_nil))))))
theorem S__law_alike : FnScope ["found", "wanted"] ["found", "wanted"] (defScope (topS 12)) := ⟨rfl, rfl, rfl, by decide +kernel, rfl, by decide +kernel, by decide +kernel⟩
theorem w__law_alike (T : Facts P w K mg) (hk1 : 1 ≤ k) {f : Addr} (hh : ∀ X : Cx, ∀ W, X.prog = P → X.w = w → X.K = K → X.mg = mg → X.base = base → Room k X.A → X.A.guards = some [] → X.calm = true → Takes X W → Here X W (faOf K names) k ar F names 14) :
    BodyOk P w K mg base (faOf K names) k ["found", "wanted"] "_law_alike" (topS 12) f (b__law_alike F) := by
  intro cdv A fr s H E hr hG
  have S := S__law_alike
  have h := hh _ (fun cls d _ H' => E cls d H') rfl rfl rfl rfl rfl hr hG rfl (takes_of (X := cxOf (L2.CX P w) P w K mg base ["found", "wanted"] "_law_alike" (defScope (topS 12)) f cdv A fr s H E) rfl rfl rfl rfl)
  have hp : PassesOwn (model P w) (cxOf (L2.CX P w) P w K mg base ["found", "wanted"] "_law_alike" (defScope (topS 12)) f cdv A fr s H E).A (cxOf (L2.CX P w) P w K mg base ["found", "wanted"] "_law_alike" (defScope (topS 12)) f cdv A fr s H E).env (cxOf (L2.CX P w) P w K mg base ["found", "wanted"] "_law_alike" (defScope (topS 12)) f cdv A fr s H E).xe := passes_of rfl
  exact ss_one (ss_ret (se_and (se_cmp (ox_eq h.u64) cd_eq (se_blt (call_reprD h.gd h.u65) cl_repr rfl T.z_repr boot_repr (sa_cons (se_var (i := 0) rfl (.inl rfl)) (sa_nil))) (se_blt (call_reprD h.gd h.u65) cl_repr rfl T.z_repr boot_repr (sa_cons (se_var (i := 1) rfl (.inl rfl)) (sa_nil))) (nomark _)) (se_one (se_cmp (ox_eq h.u64) cd_eq (se_var (i := 0) rfl (.inl rfl)) (se_var (i := 1) rfl (.inl rfl)) (nomark _)))))
theorem S__law_error : FnScope ["way", "data", "one", "other", "error"] ["way", "data"] (defScope (topS 13)) := ⟨rfl, rfl, rfl, by decide +kernel, rfl, by decide +kernel, by decide +kernel⟩
theorem w__law_error (T : Facts P w K mg) (hk1 : 1 ≤ k) {f : Addr} (hh : ∀ X : Cx, ∀ W, X.prog = P → X.w = w → X.K = K → X.mg = mg → X.base = base → Room k X.A → X.A.guards = some [] → X.calm = true → Takes X W → Here X W (faOf K names) k ar F names 14) :
    BodyOk P w K mg base (faOf K names) k ["way", "data", "one", "other", "error"] "_law_error" (topS 13) f (b__law_error F) := by
  intro cdv A fr s H E hr hG
  have S := S__law_error
  have h := hh _ (fun cls d _ H' => E cls d H') rfl rfl rfl rfl rfl hr hG rfl (takes_of (X := cxOf (L2.CX P w) P w K mg base ["way", "data", "one", "other", "error"] "_law_error" (defScope (topS 13)) f cdv A fr s H E) rfl rfl rfl rfl)
  have hp : PassesOwn (model P w) (cxOf (L2.CX P w) P w K mg base ["way", "data", "one", "other", "error"] "_law_error" (defScope (topS 13)) f cdv A fr s H E).A (cxOf (L2.CX P w) P w K mg base ["way", "data", "one", "other", "error"] "_law_error" (defScope (topS 13)) f cdv A fr s H E).env (cxOf (L2.CX P w) P w K mg base ["way", "data", "one", "other", "error"] "_law_error" (defScope (topS 13)) f cdv A fr s H E).xe := passes_of rfl
  exact ss_cons (ss_asg (ws := [2, 3]) (se_var (i := 1) rfl (.inl rfl)) (sg_lst rfl (sgs_cons (sg_name (i := 2) S.nd rfl (.inl rfl)) (sgs_cons (sg_name (i := 3) S.nd rfl (.inl rfl)) (sgs_nil))))) (ss_cons (ss_if (st_cmp (ox_eq h.u64) cd_eq (se_var (i := 0) rfl (.inl rfl)) (se_int) (nomark _)) (ss_cons (ss_set (i := 4) S.nd rfl (.inl rfl) (se_mk2 T.e_BadText h.room hk1 rfl (sa_cons (se_var (i := 2) rfl (.inl rfl)) (sa_cons (se_var (i := 3) rfl (.inl rfl)) (sa_nil))))) (ss_one (ss_ret (se_tup (sa_cons (se_var (i := 4) rfl (.inl rfl)) (sa_cons (se_tup (sa_cons (se_xa (xfOk T) (se_var (i := 4) rfl (.inl rfl))) (sa_cons (se_xa (xfOk T) (se_var (i := 4) rfl (.inl rfl))) (sa_nil)))) (sa_cons (se_tup (sa_cons (se_var (i := 2) rfl (.inl rfl)) (sa_cons (se_var (i := 3) rfl (.inl rfl)) (sa_nil)))) (sa_cons (se_str) (sa_nil))))))))) (ss_nil)) (ss_cons (ss_if (st_cmp (ox_eq h.u64) cd_eq (se_var (i := 0) rfl (.inl rfl)) (se_int) (nomark _)) (ss_cons (ss_set (i := 4) S.nd rfl (.inl rfl) (se_mk2 T.e_BadTree h.room hk1 rfl (sa_cons (se_var (i := 2) rfl (.inl rfl)) (sa_cons (se_var (i := 3) rfl (.inl rfl)) (sa_nil))))) (ss_one (ss_ret (se_tup (sa_cons (se_var (i := 4) rfl (.inl rfl)) (sa_cons (se_tup (sa_cons (se_xa (xfOk T) (se_var (i := 4) rfl (.inl rfl))) (sa_cons (se_xa (xfOk T) (se_var (i := 4) rfl (.inl rfl))) (sa_nil)))) (sa_cons (se_tup (sa_cons (se_var (i := 2) rfl (.inl rfl)) (sa_cons (se_var (i := 3) rfl (.inl rfl)) (sa_nil)))) (sa_cons (se_str) (sa_nil))))))))) (ss_nil)) (ss_cons (ss_if (st_cmp (ox_eq h.u64) cd_eq (se_var (i := 0) rfl (.inl rfl)) (se_int) (nomark _)) (ss_cons (ss_set (i := 4) S.nd rfl (.inl rfl) (se_mk2 T.e_BadLog h.room hk1 rfl (sa_cons (se_var (i := 2) rfl (.inl rfl)) (sa_cons (se_var (i := 3) rfl (.inl rfl)) (sa_nil))))) (ss_one (ss_ret (se_tup (sa_cons (se_var (i := 4) rfl (.inl rfl)) (sa_cons (se_tup (sa_cons (se_xa (xfOk T) (se_var (i := 4) rfl (.inl rfl))) (sa_cons (se_xa (xfOk T) (se_var (i := 4) rfl (.inl rfl))) (sa_nil)))) (sa_cons (se_tup (sa_cons (se_var (i := 2) rfl (.inl rfl)) (sa_cons (se_var (i := 3) rfl (.inl rfl)) (sa_nil)))) (sa_cons (se_str) (sa_nil))))))))) (ss_nil)) (ss_cons (ss_if (st_cmp (ox_eq h.u64) cd_eq (se_var (i := 0) rfl (.inl rfl)) (se_int) (nomark _)) (ss_cons (ss_set (i := 4) S.nd rfl (.inl rfl) (se_mk1 T.e_NoCommand h.room hk1 rfl (sa_cons (se_var (i := 2) rfl (.inl rfl)) (sa_nil)))) (ss_one (ss_ret (se_tup (sa_cons (se_var (i := 4) rfl (.inl rfl)) (sa_cons (se_tup (sa_cons (se_xa (xfOk T) (se_var (i := 4) rfl (.inl rfl))) (sa_nil))) (sa_cons (se_tup (sa_cons (se_var (i := 2) rfl (.inl rfl)) (sa_nil))) (sa_cons (se_str) (sa_nil))))))))) (ss_nil)) (ss_cons (ss_if (st_cmp (ox_eq h.u64) cd_eq (se_var (i := 0) rfl (.inl rfl)) (se_int) (nomark _)) (ss_cons (ss_set (i := 4) S.nd rfl (.inl rfl) (se_mk2 T.e_TooLarge h.room hk1 rfl (sa_cons (se_var (i := 2) rfl (.inl rfl)) (sa_cons (se_var (i := 3) rfl (.inl rfl)) (sa_nil))))) (ss_one (ss_ret (se_tup (sa_cons (se_var (i := 4) rfl (.inl rfl)) (sa_cons (se_tup (sa_cons (se_xa (xfOk T) (se_var (i := 4) rfl (.inl rfl))) (sa_cons (se_xa (xfOk T) (se_var (i := 4) rfl (.inl rfl))) (sa_nil)))) (sa_cons (se_tup (sa_cons (se_var (i := 2) rfl (.inl rfl)) (sa_cons (se_var (i := 3) rfl (.inl rfl)) (sa_nil)))) (sa_cons (se_str) (sa_nil))))))))) (ss_nil)) (ss_one (ss_ret (se_tup (sa_cons (se_if (st_cmp (ox_eq h.u64) cd_eq (se_var (i := 0) rfl (.inl rfl)) (se_int) (nomark _)) (se_mk0 T.e_Nothing PySem.F.excBase_ValueError rfl) (se_mk0 T.e_SoonError PySem.F.excBase_ValueError rfl)) (sa_cons (se_tup (sa_nil)) (sa_cons (se_tup (sa_nil)) (sa_cons (se_if (st_cmp (ox_eq h.u64) cd_eq (se_var (i := 0) rfl (.inl rfl)) (se_int) (nomark _)) (se_str) (se_str)) (sa_nil)))))))))))))
theorem S__law_raised : FnScope ["way", "data", "one", "other", "its"] ["way", "data"] (defScope (topS 14)) := ⟨rfl, rfl, rfl, by decide +kernel, rfl, by decide +kernel, by decide +kernel⟩
theorem w__law_raised (T : Facts P w K mg) (hk1 : 1 ≤ k) {f : Addr} (hh : ∀ X : Cx, ∀ W, X.prog = P → X.w = w → X.K = K → X.mg = mg → X.base = base → Room k X.A → X.A.guards = some [] → X.calm = true → Takes X W → Here X W (faOf K names) k ar F names 14) :
    BodyOk P w K mg base (faOf K names) k ["way", "data", "one", "other", "its"] "_law_raised" (topS 14) f (b__law_raised F) := by
  intro cdv A fr s H E hr hG
  have S := S__law_raised
  have h := hh _ (fun cls d _ H' => E cls d H') rfl rfl rfl rfl rfl hr hG rfl (takes_of (X := cxOf (L2.CX P w) P w K mg base ["way", "data", "one", "other", "its"] "_law_raised" (defScope (topS 14)) f cdv A fr s H E) rfl rfl rfl rfl)
  have hp : PassesOwn (model P w) (cxOf (L2.CX P w) P w K mg base ["way", "data", "one", "other", "its"] "_law_raised" (defScope (topS 14)) f cdv A fr s H E).A (cxOf (L2.CX P w) P w K mg base ["way", "data", "one", "other", "its"] "_law_raised" (defScope (topS 14)) f cdv A fr s H E).env (cxOf (L2.CX P w) P w K mg base ["way", "data", "one", "other", "its"] "_law_raised" (defScope (topS 14)) f cdv A fr s H E).xe := passes_of rfl
  exact ss_cons (ss_asg (ws := [2, 3]) (se_var (i := 1) rfl (.inl rfl)) (sg_lst rfl (sgs_cons (sg_name (i := 2) S.nd rfl (.inl rfl)) (sgs_cons (sg_name (i := 3) S.nd rfl (.inl rfl)) (sgs_nil))))) (ss_one (ss_try S.nd rfl rfl h.tk (fun W pn xe tk hp => ss_cons (ss_if (st_cmp (ox_eq (h.tr pn xe tk).u64) cd_eq (se_var (i := 0) rfl (.inl rfl)) (se_int) (nomark _)) (ss_one (T.e_BadText.raise2 rfl (h.tr pn xe tk).tk (h.tr pn xe tk).room hk1 rfl (sa_cons (se_var (i := 2) rfl (.inl rfl)) (sa_cons (se_var (i := 3) rfl (.inl rfl)) (sa_nil))))) (ss_nil)) (ss_cons (ss_if (st_cmp (ox_eq (h.tr pn xe tk).u64) cd_eq (se_var (i := 0) rfl (.inl rfl)) (se_int) (nomark _)) (ss_one (T.e_BadTree.raise2 rfl (h.tr pn xe tk).tk (h.tr pn xe tk).room hk1 rfl (sa_cons (se_var (i := 2) rfl (.inl rfl)) (sa_cons (se_var (i := 3) rfl (.inl rfl)) (sa_nil))))) (ss_nil)) (ss_cons (ss_if (st_cmp (ox_eq (h.tr pn xe tk).u64) cd_eq (se_var (i := 0) rfl (.inl rfl)) (se_int) (nomark _)) (ss_one (T.e_BadLog.raise2 rfl (h.tr pn xe tk).tk (h.tr pn xe tk).room hk1 rfl (sa_cons (se_var (i := 2) rfl (.inl rfl)) (sa_cons (se_var (i := 3) rfl (.inl rfl)) (sa_nil))))) (ss_nil)) (ss_cons (ss_if (st_cmp (ox_eq (h.tr pn xe tk).u64) cd_eq (se_var (i := 0) rfl (.inl rfl)) (se_int) (nomark _)) (ss_one (T.e_NoCommand.raise1 rfl (h.tr pn xe tk).tk (h.tr pn xe tk).room hk1 rfl (sa_cons (se_var (i := 2) rfl (.inl rfl)) (sa_nil)))) (ss_nil)) (ss_cons (ss_if (st_cmp (ox_eq (h.tr pn xe tk).u64) cd_eq (se_var (i := 0) rfl (.inl rfl)) (se_int) (nomark _)) (ss_one (T.e_TooLarge.raise2 rfl (h.tr pn xe tk).tk (h.tr pn xe tk).room hk1 rfl (sa_cons (se_var (i := 2) rfl (.inl rfl)) (sa_cons (se_var (i := 3) rfl (.inl rfl)) (sa_nil))))) (ss_nil)) (ss_one (T.e_Nothing.raise0 PySem.F.excBase_ValueError rfl (h.tr pn xe tk).tk rfl))))))) (ClOk.named (i := 4) rfl rfl (T.e_SoonError.names rfl) (cn_ps rfl (.inl rfl) h.room.depth (by decide) (by decide)) (ClOk.nil)) (ClsRd.cons T.t_SoonError rfl (cn_rd (nmOk T)) (ClsRd.nil))))
theorem S_law : FnScope ["script", "bag", "way", "data", "turn", "error", "kept", "wanted", "word"] ["script"] (defScope (topS 15)) := ⟨rfl, rfl, rfl, by decide +kernel, rfl, by decide +kernel, by decide +kernel⟩
theorem w_law (T : Facts P w K mg) (hk1 : 1 ≤ k) {f : Addr} (hh : ∀ X : Cx, ∀ W, X.prog = P → X.w = w → X.K = K → X.mg = mg → X.base = base → Room k X.A → X.A.guards = some [] → X.calm = true → Takes X W → Here X W (faOf K names) k ar F names 14) :
    BodyOk P w K mg base (faOf K names) k ["script", "bag", "way", "data", "turn", "error", "kept", "wanted", "word"] "law" (topS 15) f (b_law F) := by
  intro cdv A fr s H E hr hG
  have S := S_law
  have h := hh _ (fun cls d _ H' => E cls d H') rfl rfl rfl rfl rfl hr hG rfl (takes_of (X := cxOf (L2.CX P w) P w K mg base ["script", "bag", "way", "data", "turn", "error", "kept", "wanted", "word"] "law" (defScope (topS 15)) f cdv A fr s H E) rfl rfl rfl rfl)
  have hp : PassesOwn (model P w) (cxOf (L2.CX P w) P w K mg base ["script", "bag", "way", "data", "turn", "error", "kept", "wanted", "word"] "law" (defScope (topS 15)) f cdv A fr s H E).A (cxOf (L2.CX P w) P w K mg base ["script", "bag", "way", "data", "turn", "error", "kept", "wanted", "word"] "law" (defScope (topS 15)) f cdv A fr s H E).env (cxOf (L2.CX P w) P w K mg base ["script", "bag", "way", "data", "turn", "error", "kept", "wanted", "word"] "law" (defScope (topS 15)) f cdv A fr s H E).xe := passes_of rfl
  exact ss_cons (ss_set (i := 1) S.nd rfl (.inr rfl) (h_call h 0 rfl (by decide) rfl (sa_cons (se_var (i := 0) rfl (.inl rfl)) (sa_nil)))) (ss_cons (ss_for (ws := [2]) hp rfl (si_range1 rfl T.z_range (sa_cons (se_int) (sa_nil))) (sg_name (i := 2) S.nd rfl (.inl rfl)) (ss_cons (ss_setLc (i := 3) rfl S.nd rfl rfl (sw_true rfl rfl rfl rfl) (si_range1 rfl T.z_range (sa_cons (se_int) (sa_nil))) (own := [("turn", 4)]) (ws := [4]) (blkOk_by (by rfl)) (by decide) (fun s0 H0 C0 cl0 fp0 => sg_name (i := 4) S.nd rfl (.inl rfl)) (fun s0 H0 C0 cl0 fp0 => sts_nil) (fun s0 H0 C0 cl0 fp0 => h_call (h.blk s0 H0 _ _ fp0) 2 rfl (by decide) rfl (sa_cons (se_var (i := 1) rfl (.inr (.inl rfl))) (sa_cons (se_lst (sa_cons (se_int) (sa_cons (se_int) (sa_cons (se_str) (sa_cons (se_non) (sa_cons (se_tup (sa_cons (se_str) (sa_cons (se_str) (sa_nil)))) (sa_nil))))))) (sa_nil))))) (ss_cons (ss_asg (ws := [5, 6, 7, 8]) (h_call h 4 rfl (by decide) rfl (sa_cons (se_var (i := 2) rfl (.inl rfl)) (sa_cons (se_var (i := 3) rfl (.inl rfl)) (sa_nil)))) (sg_tup rfl (sgs_cons (sg_name (i := 5) S.nd rfl (.inl rfl)) (sgs_cons (sg_name (i := 6) S.nd rfl (.inl rfl)) (sgs_cons (sg_name (i := 7) S.nd rfl (.inl rfl)) (sgs_cons (sg_name (i := 8) S.nd rfl (.inl rfl)) (sgs_nil))))))) (ss_cons (ss_if (PW.pt (sw_or (st_not (st_val (se_blt call_isX (cl_isX (kindOk T) T.e_SoonError.at_) rfl T.z_isinstance boot_isinstance (sa_cons (se_var (i := 5) rfl (.inl rfl)) (sa_cons (se_fn rfl T.e_SoonError.m T.e_SoonError.at_) (sa_nil)))))) (sw_or (st_not (st_val (se_blt call_isX (cl_isX (kindOk T) T.e_SoonError.at_) rfl T.z_isinstance boot_isinstance (sa_cons (se_var (i := 5) rfl (.inl rfl)) (sa_cons (se_ty rfl T.z_ValueError boot_ValueError) (sa_nil)))))) (sw_or1 (st_not (st_val (h_call h 3 rfl (by decide) rfl (sa_cons (se_var (i := 6) rfl (.inl rfl)) (sa_cons (se_var (i := 7) rfl (.inl rfl)) (sa_nil)))))))))) (ss_one (ss_ret (se_bl))) (ss_nil)) (ss_one (ss_if (PW.pt (sw_or (st_cmp (ox_ne h.u64) cd_ne (se_cn (nmOk T) h.room (se_var (i := 5) rfl (.inl rfl))) (se_var (i := 8) rfl (.inl rfl)) (nomark _)) (sw_or1 (st_cmp (ox_ne h.u64) cd_ne (h_call h 5 rfl (by decide) rfl (sa_cons (se_var (i := 2) rfl (.inl rfl)) (sa_cons (se_var (i := 3) rfl (.inl rfl)) (sa_nil)))) (se_if (st_cmp ox_lt cd_lt (se_var (i := 2) rfl (.inl rfl)) (se_int) (nomark _)) (se_var (i := 8) rfl (.inl rfl)) (se_str)) (nomark _))))) (ss_one (ss_ret (se_bl))) (ss_nil))))))) (ss_one (ss_ret (se_bl))))
end K00
set_option Elab.async false
set_option linter.all false
set_option maxRecDepth 100000
/-! from the bodies to the law, printed by gen00.py -/
namespace K00
open PySem PySem.Spec PyProof.Rows L2 Ev
variable {P : Program} {w : World} {K : PySem.W.Frag} {mg : Str → Option Value} {base : Heap} {k : Nat} {F : Nat → Fn}
theorem here (T : Facts P w K mg) {hp : Heap} (X0 : K.In hp) (G0 : hp.Ns mainGlobals mg) (g : ∀ i, i < 14 → Good P w K mg base (faOf K names) k i (ar i) (F i)) :
    ∀ X : Cx, ∀ W, X.prog = P → X.w = w → X.K = K → X.mg = mg → X.base = base → Room k X.A → X.A.guards = some [] → X.calm = true → Takes X W → Here X W (faOf K names) k ar F names 14 := by
  intro X W e1 e2 e3 e4 e5 hr hG hc tk
  subst e1 e2 e3 e4 e5
  exact ⟨g, hr, hG, fa_mg X0 G0, fun i f z => Nat.lt_of_lt_of_eq (fa_lt z) (by rfl), hc, tk⟩
theorem g__law_bag (T : Facts P w K mg) (hk1 : 1 ≤ k) (hh : ∀ X : Cx, ∀ W, X.prog = P → X.w = w → X.K = K → X.mg = mg → X.base = base → Room k X.A → X.A.guards = some [] → X.calm = true → Takes X W → Here X W (faOf K names) k ar F names 14) : Good P w K mg base (faOf K names) (k + 1) 0 1 (enter 1 1 (b__law_bag F)) := by
  obtain ⟨f, fd, e, Fn⟩ := T.d__law_bag.ex
  exact good_of Fn S__law_bag (faOf_at rfl e) (Fn.binds (ps := ["script"]) fun _ _ _ _ _ _ us hl => match us, hl with | [_], _ => rfl) rfl rfl (w__law_bag T hk1 hh)
theorem n__law_bag (T : Facts P w K mg) : Good P w K mg base (faOf K names) k 0 1 (fun _ _ => .stuck) := by
  obtain ⟨f, fd, e, Fn⟩ := T.d__law_bag.ex
  exact Good.none Fn (faOf_at rfl e) (Fn.binds (ps := ["script"]) fun _ _ _ _ _ _ us hl => match us, hl with | [_], _ => rfl) rfl
theorem g__law_take (T : Facts P w K mg) (hk1 : 1 ≤ k) (hh : ∀ X : Cx, ∀ W, X.prog = P → X.w = w → X.K = K → X.mg = mg → X.base = base → Room k X.A → X.A.guards = some [] → X.calm = true → Takes X W → Here X W (faOf K names) k ar F names 14) : Good P w K mg base (faOf K names) (k + 1) 1 2 (enter 2 5 (b__law_take F)) := by
  obtain ⟨f, fd, e, Fn⟩ := T.d__law_take.ex
  exact good_of Fn S__law_take (faOf_at rfl e) (Fn.binds (ps := ["bag", "many"]) fun _ _ _ _ _ _ us hl => match us, hl with | [_, _], _ => rfl) rfl rfl (w__law_take T hk1 hh)
theorem n__law_take (T : Facts P w K mg) : Good P w K mg base (faOf K names) k 1 2 (fun _ _ => .stuck) := by
  obtain ⟨f, fd, e, Fn⟩ := T.d__law_take.ex
  exact Good.none Fn (faOf_at rfl e) (Fn.binds (ps := ["bag", "many"]) fun _ _ _ _ _ _ us hl => match us, hl with | [_, _], _ => rfl) rfl
theorem g__law_some (T : Facts P w K mg) (hk1 : 1 ≤ k) (hh : ∀ X : Cx, ∀ W, X.prog = P → X.w = w → X.K = K → X.mg = mg → X.base = base → Room k X.A → X.A.guards = some [] → X.calm = true → Takes X W → Here X W (faOf K names) k ar F names 14) : Good P w K mg base (faOf K names) (k + 1) 2 2 (enter 2 0 (b__law_some F)) := by
  obtain ⟨f, fd, e, Fn⟩ := T.d__law_some.ex
  exact good_of Fn S__law_some (faOf_at rfl e) (Fn.binds (ps := ["bag", "things"]) fun _ _ _ _ _ _ us hl => match us, hl with | [_, _], _ => rfl) rfl rfl (w__law_some T hk1 hh)
theorem n__law_some (T : Facts P w K mg) : Good P w K mg base (faOf K names) k 2 2 (fun _ _ => .stuck) := by
  obtain ⟨f, fd, e, Fn⟩ := T.d__law_some.ex
  exact Good.none Fn (faOf_at rfl e) (Fn.binds (ps := ["bag", "things"]) fun _ _ _ _ _ _ us hl => match us, hl with | [_, _], _ => rfl) rfl
theorem g__law_alike (T : Facts P w K mg) (hk1 : 1 ≤ k) (hh : ∀ X : Cx, ∀ W, X.prog = P → X.w = w → X.K = K → X.mg = mg → X.base = base → Room k X.A → X.A.guards = some [] → X.calm = true → Takes X W → Here X W (faOf K names) k ar F names 14) : Good P w K mg base (faOf K names) (k + 1) 3 2 (enter 2 0 (b__law_alike F)) := by
  obtain ⟨f, fd, e, Fn⟩ := T.d__law_alike.ex
  exact good_of Fn S__law_alike (faOf_at rfl e) (Fn.binds (ps := ["found", "wanted"]) fun _ _ _ _ _ _ us hl => match us, hl with | [_, _], _ => rfl) rfl rfl (w__law_alike T hk1 hh)
theorem n__law_alike (T : Facts P w K mg) : Good P w K mg base (faOf K names) k 3 2 (fun _ _ => .stuck) := by
  obtain ⟨f, fd, e, Fn⟩ := T.d__law_alike.ex
  exact Good.none Fn (faOf_at rfl e) (Fn.binds (ps := ["found", "wanted"]) fun _ _ _ _ _ _ us hl => match us, hl with | [_, _], _ => rfl) rfl
theorem g__law_error (T : Facts P w K mg) (hk1 : 1 ≤ k) (hh : ∀ X : Cx, ∀ W, X.prog = P → X.w = w → X.K = K → X.mg = mg → X.base = base → Room k X.A → X.A.guards = some [] → X.calm = true → Takes X W → Here X W (faOf K names) k ar F names 14) : Good P w K mg base (faOf K names) (k + 1) 4 2 (enter 2 3 (b__law_error F)) := by
  obtain ⟨f, fd, e, Fn⟩ := T.d__law_error.ex
  exact good_of Fn S__law_error (faOf_at rfl e) (Fn.binds (ps := ["way", "data"]) fun _ _ _ _ _ _ us hl => match us, hl with | [_, _], _ => rfl) rfl rfl (w__law_error T hk1 hh)
theorem n__law_error (T : Facts P w K mg) : Good P w K mg base (faOf K names) k 4 2 (fun _ _ => .stuck) := by
  obtain ⟨f, fd, e, Fn⟩ := T.d__law_error.ex
  exact Good.none Fn (faOf_at rfl e) (Fn.binds (ps := ["way", "data"]) fun _ _ _ _ _ _ us hl => match us, hl with | [_, _], _ => rfl) rfl
theorem g__law_raised (T : Facts P w K mg) (hk1 : 1 ≤ k) (hh : ∀ X : Cx, ∀ W, X.prog = P → X.w = w → X.K = K → X.mg = mg → X.base = base → Room k X.A → X.A.guards = some [] → X.calm = true → Takes X W → Here X W (faOf K names) k ar F names 14) : Good P w K mg base (faOf K names) (k + 1) 5 2 (enter 2 3 (b__law_raised F)) := by
  obtain ⟨f, fd, e, Fn⟩ := T.d__law_raised.ex
  exact good_of Fn S__law_raised (faOf_at rfl e) (Fn.binds (ps := ["way", "data"]) fun _ _ _ _ _ _ us hl => match us, hl with | [_, _], _ => rfl) rfl rfl (w__law_raised T hk1 hh)
theorem n__law_raised (T : Facts P w K mg) : Good P w K mg base (faOf K names) k 5 2 (fun _ _ => .stuck) := by
  obtain ⟨f, fd, e, Fn⟩ := T.d__law_raised.ex
  exact Good.none Fn (faOf_at rfl e) (Fn.binds (ps := ["way", "data"]) fun _ _ _ _ _ _ us hl => match us, hl with | [_, _], _ => rfl) rfl
theorem g_law (T : Facts P w K mg) (hk1 : 1 ≤ k) (hh : ∀ X : Cx, ∀ W, X.prog = P → X.w = w → X.K = K → X.mg = mg → X.base = base → Room k X.A → X.A.guards = some [] → X.calm = true → Takes X W → Here X W (faOf K names) k ar F names 14) : Good P w K mg base (faOf K names) (k + 1) 6 1 (enter 1 8 (b_law F)) := by
  obtain ⟨f, fd, e, Fn⟩ := T.d_law.ex
  exact good_of Fn S_law (faOf_at rfl e) (Fn.binds (ps := ["script"]) fun _ _ _ _ _ _ us hl => match us, hl with | [_], _ => rfl) rfl rfl (w_law T hk1 hh)
theorem n_law (T : Facts P w K mg) : Good P w K mg base (faOf K names) k 6 1 (fun _ _ => .stuck) := by
  obtain ⟨f, fd, e, Fn⟩ := T.d_law.ex
  exact Good.none Fn (faOf_at rfl e) (Fn.binds (ps := ["script"]) fun _ _ _ _ _ _ us hl => match us, hl with | [_], _ => rfl) rfl
theorem n_SoonError (T : Facts P w K mg) {r : Fn} (hr : ∀ ds G, r ds G = .stuck) : Good P w K mg base (faOf K names) k 7 1 r := by
  obtain ⟨f, fd, e, Fn⟩ := T.d_law.ex
  obtain ⟨C, a, kC⟩ := T.k_SoonError.ex
  exact Good.nothing (faOf_at rfl a) kC (Fn.binds (ps := ["script"]) fun _ _ _ _ _ _ us hl => match us, hl with | [_], _ => rfl) rfl hr
theorem n_BadText (T : Facts P w K mg) {r : Fn} (hr : ∀ ds G, r ds G = .stuck) : Good P w K mg base (faOf K names) k 8 1 r := by
  obtain ⟨f, fd, e, Fn⟩ := T.d_law.ex
  obtain ⟨C, a, kC⟩ := T.k_BadText.ex
  exact Good.nothing (faOf_at rfl a) kC (Fn.binds (ps := ["script"]) fun _ _ _ _ _ _ us hl => match us, hl with | [_], _ => rfl) rfl hr
theorem n_BadTree (T : Facts P w K mg) {r : Fn} (hr : ∀ ds G, r ds G = .stuck) : Good P w K mg base (faOf K names) k 9 1 r := by
  obtain ⟨f, fd, e, Fn⟩ := T.d_law.ex
  obtain ⟨C, a, kC⟩ := T.k_BadTree.ex
  exact Good.nothing (faOf_at rfl a) kC (Fn.binds (ps := ["script"]) fun _ _ _ _ _ _ us hl => match us, hl with | [_], _ => rfl) rfl hr
theorem n_BadLog (T : Facts P w K mg) {r : Fn} (hr : ∀ ds G, r ds G = .stuck) : Good P w K mg base (faOf K names) k 10 1 r := by
  obtain ⟨f, fd, e, Fn⟩ := T.d_law.ex
  obtain ⟨C, a, kC⟩ := T.k_BadLog.ex
  exact Good.nothing (faOf_at rfl a) kC (Fn.binds (ps := ["script"]) fun _ _ _ _ _ _ us hl => match us, hl with | [_], _ => rfl) rfl hr
theorem n_NoCommand (T : Facts P w K mg) {r : Fn} (hr : ∀ ds G, r ds G = .stuck) : Good P w K mg base (faOf K names) k 11 1 r := by
  obtain ⟨f, fd, e, Fn⟩ := T.d_law.ex
  obtain ⟨C, a, kC⟩ := T.k_NoCommand.ex
  exact Good.nothing (faOf_at rfl a) kC (Fn.binds (ps := ["script"]) fun _ _ _ _ _ _ us hl => match us, hl with | [_], _ => rfl) rfl hr
theorem n_Nothing (T : Facts P w K mg) {r : Fn} (hr : ∀ ds G, r ds G = .stuck) : Good P w K mg base (faOf K names) k 12 1 r := by
  obtain ⟨f, fd, e, Fn⟩ := T.d_law.ex
  obtain ⟨C, a, kC⟩ := T.k_Nothing.ex
  exact Good.nothing (faOf_at rfl a) kC (Fn.binds (ps := ["script"]) fun _ _ _ _ _ _ us hl => match us, hl with | [_], _ => rfl) rfl hr
theorem n_TooLarge (T : Facts P w K mg) {r : Fn} (hr : ∀ ds G, r ds G = .stuck) : Good P w K mg base (faOf K names) k 13 1 r := by
  obtain ⟨f, fd, e, Fn⟩ := T.d_law.ex
  obtain ⟨C, a, kC⟩ := T.k_TooLarge.ex
  exact Good.nothing (faOf_at rfl a) kC (Fn.binds (ps := ["script"]) fun _ _ _ _ _ _ us hl => match us, hl with | [_], _ => rfl) rfl hr
theorem step (T : Facts P w K mg) {hp : Heap} (X0 : K.In hp) (G0 : hp.Ns mainGlobals mg) (hk1 : 1 ≤ k) (g : ∀ i, i < 14 → Good P w K mg base (faOf K names) k i (ar i) (F i)) : ∀ i, i < 14 → Good P w K mg base (faOf K names) (k + 1) i (ar i) (fstep F i) := fun i hi => by
  have hh := here T X0 G0 g
  match i, hi with
  | 0, _ => exact g__law_bag T hk1 hh
  | 1, _ => exact g__law_take T hk1 hh
  | 2, _ => exact g__law_some T hk1 hh
  | 3, _ => exact g__law_alike T hk1 hh
  | 4, _ => exact g__law_error T hk1 hh
  | 5, _ => exact g__law_raised T hk1 hh
  | 6, _ => exact g_law T hk1 hh
  | 7, _ => exact n_SoonError T fun _ _ => rfl
  | 8, _ => exact n_BadText T fun _ _ => rfl
  | 9, _ => exact n_BadTree T fun _ _ => rfl
  | 10, _ => exact n_BadLog T fun _ _ => rfl
  | 11, _ => exact n_NoCommand T fun _ _ => rfl
  | 12, _ => exact n_Nothing T fun _ _ => rfl
  | 13, _ => exact n_TooLarge T fun _ _ => rfl
  | n + 14, z => exact absurd z (by omega)
theorem base0 (T : Facts P w K mg) : ∀ i, i < 14 → Good P w K mg base (faOf K names) k i (ar i) (fns 0 i) := fun i hi => by
  match i, hi with
  | 0, _ => exact n__law_bag T
  | 1, _ => exact n__law_take T
  | 2, _ => exact n__law_some T
  | 3, _ => exact n__law_alike T
  | 4, _ => exact n__law_error T
  | 5, _ => exact n__law_raised T
  | 6, _ => exact n_law T
  | 7, _ => exact n_SoonError T fun _ _ => rfl
  | 8, _ => exact n_BadText T fun _ _ => rfl
  | 9, _ => exact n_BadTree T fun _ _ => rfl
  | 10, _ => exact n_BadLog T fun _ _ => rfl
  | 11, _ => exact n_NoCommand T fun _ _ => rfl
  | 12, _ => exact n_Nothing T fun _ _ => rfl
  | 13, _ => exact n_TooLarge T fun _ _ => rfl
  | n + 14, z => exact absurd z (by omega)
theorem levels (T : Facts P w K mg) {hp : Heap} (X0 : K.In hp) (G0 : hp.Ns mainGlobals mg) : ∀ l i, i < 14 → Good P w K mg base (faOf K names) (l + 1) i (ar i) (fns l i)
  | 0 => base0 T
  | l + 1 => fun i hi => (step T X0 G0 (Nat.succ_le_succ (Nat.zero_le l)) (levels T X0 G0 l) i hi).loc
/-- what is left: the plain law -/
def Plain : Prop := ∀ ns : List Int, ns.length ≤ 63 → ∃ G', enter 1 8 (b_law (fns 60)) [.kl (ns.map .int)] [] = .ok (.p (.bool true)) G'
theorem law_ok (T : Facts P w K mg) {hp : Heap} (X0 : K.In hp) (G0 : hp.Ns mainGlobals mg) {fa : Addr} (hm : mg "law" = some (.ref fa)) (pl : Plain) : LawOk P w K 62 63 "script" mg fa := by
  obtain ⟨f, fd, e, Fn⟩ := T.d_law.ex
  have e2 := PySem.W.mg_of X0 G0 e
  rw [hm] at e2
  cases e2
  refine ⟨fd, spI ⟨P, w, K, faOf K names⟩ 1 (enter 1 8 (b_law (fns 60))), fun s u => ?_, fun bs X1 G1 => ?_, fun H a ns hl hO hS => law_sp hO hS (pl ns hl)⟩
  · obtain ⟨oc, od, kV, doc, pm, an, cdv, ct, osl, rfl, lk, hcd⟩ := Fn.ex
    exact .of_eq rfl
  · exact ok_of Fn S_law rfl rfl (w_law T (Nat.succ_le_succ (Nat.zero_le _)) (here T X1 G1 (levels T X1 G1 60)))
theorem t_mk_SoonError {C : Addr} {C7 : Addr} {C8 : Addr} {C9 : Addr} {C10 : Addr} {C11 : Addr} {C12 : Addr} {C13 : Addr} (aX : PySem.W.nsIn K mainGlobals "SoonError" = some (some (.ref C))) (eX : PySem.W.subIn K (.ref C) (.type "BaseException") = some true) (iX : PySem.W.isClsIn K C = true) (tX : PySem.W.typeIn K (.ref C) = some (.type "type"))
    (a7 : PySem.W.nsIn K mainGlobals "SoonError" = some (some (.ref C7))) (m7 : PySem.W.subIn K (.ref C7) (.ref C) = some true)
    (a8 : PySem.W.nsIn K mainGlobals "BadText" = some (some (.ref C8))) (m8 : PySem.W.subIn K (.ref C8) (.ref C) = some true)
    (a9 : PySem.W.nsIn K mainGlobals "BadTree" = some (some (.ref C9))) (m9 : PySem.W.subIn K (.ref C9) (.ref C) = some true)
    (a10 : PySem.W.nsIn K mainGlobals "BadLog" = some (some (.ref C10))) (m10 : PySem.W.subIn K (.ref C10) (.ref C) = some true)
    (a11 : PySem.W.nsIn K mainGlobals "NoCommand" = some (some (.ref C11))) (m11 : PySem.W.subIn K (.ref C11) (.ref C) = some true)
    (a12 : PySem.W.nsIn K mainGlobals "Nothing" = some (some (.ref C12))) (m12 : PySem.W.subIn K (.ref C12) (.ref C) = some true)
    (a13 : PySem.W.nsIn K mainGlobals "TooLarge" = some (some (.ref C13))) (m13 : PySem.W.subIn K (.ref C13) (.ref C) = some true)
    : ∀ (c : Nat) (A : Addr) (b : Bool), faOf K names c = some A → tk_SoonError c = some b → PySem.W.exmOne K (.ref A) (.ref (adr (faOf K names) 7)) = some b := by
  intro c A b h1 h2
  rw [adr_at (x := "SoonError") rfl aX]
  match c, h1, h2 with
  | 7, h1, h2 =>
    rw [faOf_at (x := "SoonError") rfl a7] at h1
    cases h1
    exact (exm_at eX iX tX m7).trans h2
  | 8, h1, h2 =>
    rw [faOf_at (x := "BadText") rfl a8] at h1
    cases h1
    exact (exm_at eX iX tX m8).trans h2
  | 9, h1, h2 =>
    rw [faOf_at (x := "BadTree") rfl a9] at h1
    cases h1
    exact (exm_at eX iX tX m9).trans h2
  | 10, h1, h2 =>
    rw [faOf_at (x := "BadLog") rfl a10] at h1
    cases h1
    exact (exm_at eX iX tX m10).trans h2
  | 11, h1, h2 =>
    rw [faOf_at (x := "NoCommand") rfl a11] at h1
    cases h1
    exact (exm_at eX iX tX m11).trans h2
  | 12, h1, h2 =>
    rw [faOf_at (x := "Nothing") rfl a12] at h1
    cases h1
    exact (exm_at eX iX tX m12).trans h2
  | 13, h1, h2 =>
    rw [faOf_at (x := "TooLarge") rfl a13] at h1
    cases h1
    exact (exm_at eX iX tX m13).trans h2
end K00
set_option Elab.async false
set_option linter.all false
/-! the plain law of k00 -/
namespace K00
theorem plain : Plain := fun ns h => plain_run ns h
end K00
set_option Elab.async false
set_option linter.all false
set_option maxRecDepth 100000
set_option pp.maxSteps 400
set_option pp.deepTerms false
open PySem PySem.W PyProof.Rows
set_option maxHeartbeats 0 in
theorem PySem.Challenge.cw_soonsure_k00_errors_with_their_data_holds : PySem.Challenge.rw_soonsure_k00_errors_with_their_data.Holds := by
  w_on; o_law; k_head; (case hw => w_witness2)
  k_fill
  refine Ev.walk1 (l := PySem.Challenge.rw_soonsure_k00_errors_with_their_data) (n := 63) (k := 62) (x := "script") rfl (by decide) rfl ⟨rfl, by decide, by decide⟩ (fun w h Y => PySem.W.kIn_of Y) ?F
  case F =>
    intro w mg fa h KX G hmg
    refine' K00.law_ok (K00.Facts.mk ?z_ValueError ?z_abs ?z_int ?z_isinstance ?z_len ?z_range ?z_repr ?k_SoonError ?k_BadText ?k_BadTree ?k_BadLog ?k_NoCommand ?k_Nothing ?k_TooLarge ?e_BadText ?e_BadTree ?e_BadLog ?e_TooLarge ?e_NoCommand ?n_SoonError ?n_BadText ?n_BadTree ?n_BadLog ?n_NoCommand ?n_Nothing ?n_TooLarge ?e_SoonError ?e_Nothing ?t_SoonError ?d__law_bag ?d__law_take ?d__law_some ?d__law_alike ?d__law_error ?d__law_raised ?d_law) KX G hmg K00.plain
    all_goals clear hmg
    (case z_ValueError => refine' PySem.W.mg_none_of KX G ?z_ValueError_a; (case z_ValueError_a => k_is))
    (case z_abs => refine' PySem.W.mg_none_of KX G ?z_abs_a; (case z_abs_a => k_is))
    (case z_int => refine' PySem.W.mg_none_of KX G ?z_int_a; (case z_int_a => k_is))
    (case z_isinstance => refine' PySem.W.mg_none_of KX G ?z_isinstance_a; (case z_isinstance_a => k_is))
    (case z_len => refine' PySem.W.mg_none_of KX G ?z_len_a; (case z_len_a => k_is))
    (case z_range => refine' PySem.W.mg_none_of KX G ?z_range_a; (case z_range_a => k_is))
    (case z_repr => refine' PySem.W.mg_none_of KX G ?z_repr_a; (case z_repr_a => k_is))
    (case k_SoonError => refine' Ev.cls_mk ?k_SoonError_a ?k_SoonError_k; (case k_SoonError_a => k_is); (case k_SoonError_k => k_is))
    (case k_BadText => refine' Ev.cls_mk ?k_BadText_a ?k_BadText_k; (case k_BadText_a => k_is); (case k_BadText_k => k_is))
    (case k_BadTree => refine' Ev.cls_mk ?k_BadTree_a ?k_BadTree_k; (case k_BadTree_a => k_is); (case k_BadTree_k => k_is))
    (case k_BadLog => refine' Ev.cls_mk ?k_BadLog_a ?k_BadLog_k; (case k_BadLog_a => k_is); (case k_BadLog_k => k_is))
    (case k_NoCommand => refine' Ev.cls_mk ?k_NoCommand_a ?k_NoCommand_k; (case k_NoCommand_a => k_is); (case k_NoCommand_k => k_is))
    (case k_Nothing => refine' Ev.cls_mk ?k_Nothing_a ?k_Nothing_k; (case k_Nothing_a => k_is); (case k_Nothing_k => k_is))
    (case k_TooLarge => refine' Ev.cls_mk ?k_TooLarge_a ?k_TooLarge_k; (case k_TooLarge_a => k_is); (case k_TooLarge_k => k_is))
    (case e_BadText => refine' Ev.er2_mk KX G rfl ?e_BadText_aC ?e_BadText_cls ?e_BadText_iC ?e_BadText_tI ?e_BadText_l ?e_BadText_cd ?e_BadText_lc ?e_BadText_ld ?e_BadText_hb ?e_BadText_hs ?e_BadText_vf ?e_BadText_hf ?e_BadText_bmOk ?e_BadText_sa ?e_BadText_exC ?e_BadText_tyC ?e_BadText_kC ?e_BadText_mro ?e_BadText_sup ?e_BadText_ve ?e_BadText_any ?e_BadText_f1 ?e_BadText_f2 ?e_BadText_ga ?e_BadText_gg ?e_BadText_hdC ?e_BadText_zs ?e_BadText_top ?e_BadText_ls ?e_BadText_lk ?e_BadText_ne ?e_BadText_s1 ?e_BadText_s2 ?e_BadText_d1 ?e_BadText_d2; (case e_BadText_aC => k_is); (case e_BadText_cls => k_is); (case e_BadText_iC => k_is); (case e_BadText_tI => k_is); (case e_BadText_l => k_is); (case e_BadText_cd => k_is); (case e_BadText_lc => k_is); (case e_BadText_ld => k_is); (case e_BadText_hb => exact fun _ _ _ => rfl); (case e_BadText_hs => exact fun _ => ⟨_, rfl⟩); (case e_BadText_vf => exact rfl); (case e_BadText_hf => exact rfl); (case e_BadText_bmOk => exact rfl); (case e_BadText_sa => k_is); (case e_BadText_exC => k_is); (case e_BadText_tyC => k_is); (case e_BadText_kC => k_is); (case e_BadText_mro => k_is); (case e_BadText_sup => ks_is); (case e_BadText_ve => k_is); (case e_BadText_any => k_is); (case e_BadText_f1 => k_is); (case e_BadText_f2 => k_is); (case e_BadText_ga => k_is); (case e_BadText_gg => k_is); (case e_BadText_hdC => k_is); (case e_BadText_zs => k_is); (case e_BadText_top => exact rfl); (case e_BadText_ls => exact rfl); (case e_BadText_lk => exact rfl); (case e_BadText_ne => decide); (case e_BadText_s1 => decide); (case e_BadText_s2 => decide); (case e_BadText_d1 => decide); (case e_BadText_d2 => decide))
    (case e_BadTree => refine' Ev.er2_mk KX G rfl ?e_BadTree_aC ?e_BadTree_cls ?e_BadTree_iC ?e_BadTree_tI ?e_BadTree_l ?e_BadTree_cd ?e_BadTree_lc ?e_BadTree_ld ?e_BadTree_hb ?e_BadTree_hs ?e_BadTree_vf ?e_BadTree_hf ?e_BadTree_bmOk ?e_BadTree_sa ?e_BadTree_exC ?e_BadTree_tyC ?e_BadTree_kC ?e_BadTree_mro ?e_BadTree_sup ?e_BadTree_ve ?e_BadTree_any ?e_BadTree_f1 ?e_BadTree_f2 ?e_BadTree_ga ?e_BadTree_gg ?e_BadTree_hdC ?e_BadTree_zs ?e_BadTree_top ?e_BadTree_ls ?e_BadTree_lk ?e_BadTree_ne ?e_BadTree_s1 ?e_BadTree_s2 ?e_BadTree_d1 ?e_BadTree_d2; (case e_BadTree_aC => k_is); (case e_BadTree_cls => k_is); (case e_BadTree_iC => k_is); (case e_BadTree_tI => k_is); (case e_BadTree_l => k_is); (case e_BadTree_cd => k_is); (case e_BadTree_lc => k_is); (case e_BadTree_ld => k_is); (case e_BadTree_hb => exact fun _ _ _ => rfl); (case e_BadTree_hs => exact fun _ => ⟨_, rfl⟩); (case e_BadTree_vf => exact rfl); (case e_BadTree_hf => exact rfl); (case e_BadTree_bmOk => exact rfl); (case e_BadTree_sa => k_is); (case e_BadTree_exC => k_is); (case e_BadTree_tyC => k_is); (case e_BadTree_kC => k_is); (case e_BadTree_mro => k_is); (case e_BadTree_sup => ks_is); (case e_BadTree_ve => k_is); (case e_BadTree_any => k_is); (case e_BadTree_f1 => k_is); (case e_BadTree_f2 => k_is); (case e_BadTree_ga => k_is); (case e_BadTree_gg => k_is); (case e_BadTree_hdC => k_is); (case e_BadTree_zs => k_is); (case e_BadTree_top => exact rfl); (case e_BadTree_ls => exact rfl); (case e_BadTree_lk => exact rfl); (case e_BadTree_ne => decide); (case e_BadTree_s1 => decide); (case e_BadTree_s2 => decide); (case e_BadTree_d1 => decide); (case e_BadTree_d2 => decide))
    (case e_BadLog => refine' Ev.er2_mk KX G rfl ?e_BadLog_aC ?e_BadLog_cls ?e_BadLog_iC ?e_BadLog_tI ?e_BadLog_l ?e_BadLog_cd ?e_BadLog_lc ?e_BadLog_ld ?e_BadLog_hb ?e_BadLog_hs ?e_BadLog_vf ?e_BadLog_hf ?e_BadLog_bmOk ?e_BadLog_sa ?e_BadLog_exC ?e_BadLog_tyC ?e_BadLog_kC ?e_BadLog_mro ?e_BadLog_sup ?e_BadLog_ve ?e_BadLog_any ?e_BadLog_f1 ?e_BadLog_f2 ?e_BadLog_ga ?e_BadLog_gg ?e_BadLog_hdC ?e_BadLog_zs ?e_BadLog_top ?e_BadLog_ls ?e_BadLog_lk ?e_BadLog_ne ?e_BadLog_s1 ?e_BadLog_s2 ?e_BadLog_d1 ?e_BadLog_d2; (case e_BadLog_aC => k_is); (case e_BadLog_cls => k_is); (case e_BadLog_iC => k_is); (case e_BadLog_tI => k_is); (case e_BadLog_l => k_is); (case e_BadLog_cd => k_is); (case e_BadLog_lc => k_is); (case e_BadLog_ld => k_is); (case e_BadLog_hb => exact fun _ _ _ => rfl); (case e_BadLog_hs => exact fun _ => ⟨_, rfl⟩); (case e_BadLog_vf => exact rfl); (case e_BadLog_hf => exact rfl); (case e_BadLog_bmOk => exact rfl); (case e_BadLog_sa => k_is); (case e_BadLog_exC => k_is); (case e_BadLog_tyC => k_is); (case e_BadLog_kC => k_is); (case e_BadLog_mro => k_is); (case e_BadLog_sup => ks_is); (case e_BadLog_ve => k_is); (case e_BadLog_any => k_is); (case e_BadLog_f1 => k_is); (case e_BadLog_f2 => k_is); (case e_BadLog_ga => k_is); (case e_BadLog_gg => k_is); (case e_BadLog_hdC => k_is); (case e_BadLog_zs => k_is); (case e_BadLog_top => exact rfl); (case e_BadLog_ls => exact rfl); (case e_BadLog_lk => exact rfl); (case e_BadLog_ne => decide); (case e_BadLog_s1 => decide); (case e_BadLog_s2 => decide); (case e_BadLog_d1 => decide); (case e_BadLog_d2 => decide))
    (case e_TooLarge => refine' Ev.er2_mk KX G rfl ?e_TooLarge_aC ?e_TooLarge_cls ?e_TooLarge_iC ?e_TooLarge_tI ?e_TooLarge_l ?e_TooLarge_cd ?e_TooLarge_lc ?e_TooLarge_ld ?e_TooLarge_hb ?e_TooLarge_hs ?e_TooLarge_vf ?e_TooLarge_hf ?e_TooLarge_bmOk ?e_TooLarge_sa ?e_TooLarge_exC ?e_TooLarge_tyC ?e_TooLarge_kC ?e_TooLarge_mro ?e_TooLarge_sup ?e_TooLarge_ve ?e_TooLarge_any ?e_TooLarge_f1 ?e_TooLarge_f2 ?e_TooLarge_ga ?e_TooLarge_gg ?e_TooLarge_hdC ?e_TooLarge_zs ?e_TooLarge_top ?e_TooLarge_ls ?e_TooLarge_lk ?e_TooLarge_ne ?e_TooLarge_s1 ?e_TooLarge_s2 ?e_TooLarge_d1 ?e_TooLarge_d2; (case e_TooLarge_aC => k_is); (case e_TooLarge_cls => k_is); (case e_TooLarge_iC => k_is); (case e_TooLarge_tI => k_is); (case e_TooLarge_l => k_is); (case e_TooLarge_cd => k_is); (case e_TooLarge_lc => k_is); (case e_TooLarge_ld => k_is); (case e_TooLarge_hb => exact fun _ _ _ => rfl); (case e_TooLarge_hs => exact fun _ => ⟨_, rfl⟩); (case e_TooLarge_vf => exact rfl); (case e_TooLarge_hf => exact rfl); (case e_TooLarge_bmOk => exact rfl); (case e_TooLarge_sa => k_is); (case e_TooLarge_exC => k_is); (case e_TooLarge_tyC => k_is); (case e_TooLarge_kC => k_is); (case e_TooLarge_mro => k_is); (case e_TooLarge_sup => ks_is); (case e_TooLarge_ve => k_is); (case e_TooLarge_any => k_is); (case e_TooLarge_f1 => k_is); (case e_TooLarge_f2 => k_is); (case e_TooLarge_ga => k_is); (case e_TooLarge_gg => k_is); (case e_TooLarge_hdC => k_is); (case e_TooLarge_zs => k_is); (case e_TooLarge_top => exact rfl); (case e_TooLarge_ls => exact rfl); (case e_TooLarge_lk => exact rfl); (case e_TooLarge_ne => decide); (case e_TooLarge_s1 => decide); (case e_TooLarge_s2 => decide); (case e_TooLarge_d1 => decide); (case e_TooLarge_d2 => decide))
    (case e_NoCommand => refine' Ev.er1_mk (p5 := ⟨0, 0, 0, 0⟩) KX G rfl ?e_NoCommand_aC ?e_NoCommand_cls ?e_NoCommand_iC ?e_NoCommand_tI ?e_NoCommand_l ?e_NoCommand_cd ?e_NoCommand_lc ?e_NoCommand_ld ?e_NoCommand_hb ?e_NoCommand_hs ?e_NoCommand_vf ?e_NoCommand_hf ?e_NoCommand_bmOk ?e_NoCommand_sa ?e_NoCommand_exC ?e_NoCommand_tyC ?e_NoCommand_kC ?e_NoCommand_mro ?e_NoCommand_sup ?e_NoCommand_ve ?e_NoCommand_any ?e_NoCommand_f1 ?e_NoCommand_ga ?e_NoCommand_gg ?e_NoCommand_hdC ?e_NoCommand_zs ?e_NoCommand_top ?e_NoCommand_ls ?e_NoCommand_lk ?e_NoCommand_s1 ?e_NoCommand_d1; (case e_NoCommand_aC => k_is); (case e_NoCommand_cls => k_is); (case e_NoCommand_iC => k_is); (case e_NoCommand_tI => k_is); (case e_NoCommand_l => k_is); (case e_NoCommand_cd => k_is); (case e_NoCommand_lc => k_is); (case e_NoCommand_ld => k_is); (case e_NoCommand_hb => exact fun _ _ => rfl); (case e_NoCommand_hs => exact fun _ => ⟨_, rfl⟩); (case e_NoCommand_vf => exact rfl); (case e_NoCommand_hf => exact rfl); (case e_NoCommand_bmOk => exact rfl); (case e_NoCommand_sa => k_is); (case e_NoCommand_exC => k_is); (case e_NoCommand_tyC => k_is); (case e_NoCommand_kC => k_is); (case e_NoCommand_mro => k_is); (case e_NoCommand_sup => ks_is); (case e_NoCommand_ve => k_is); (case e_NoCommand_any => k_is); (case e_NoCommand_f1 => k_is); (case e_NoCommand_ga => k_is); (case e_NoCommand_gg => k_is); (case e_NoCommand_hdC => k_is); (case e_NoCommand_zs => k_is); (case e_NoCommand_top => exact rfl); (case e_NoCommand_ls => exact rfl); (case e_NoCommand_lk => exact rfl); (case e_NoCommand_s1 => decide); (case e_NoCommand_d1 => decide))
    (case n_SoonError => refine' Ev.nm_mk (s := "SoonError") (x := "SoonError") rfl rfl ?n_SoonError_aC ?n_SoonError_aS ?n_SoonError_cls ?n_SoonError_ga ?n_SoonError_gg ?n_SoonError_exC ?n_SoonError_ha ?n_SoonError_hn ?n_SoonError_ht ?n_SoonError_hm ?n_SoonError_any ?n_SoonError_tyC ?n_SoonError_fn ?n_SoonError_sz ?n_SoonError_me ?n_SoonError_tF ?n_SoonError_kF ?n_SoonError_lF ?n_SoonError_cF ?n_SoonError_hb ?n_SoonError_ks ?n_SoonError_kv; (case n_SoonError_aC => k_is); (case n_SoonError_aS => k_is); (case n_SoonError_cls => k_is); (case n_SoonError_ga => k_is); (case n_SoonError_gg => k_is); (case n_SoonError_exC => k_is); (case n_SoonError_ha => k_is); (case n_SoonError_hn => k_is); (case n_SoonError_ht => k_is); (case n_SoonError_hm => k_is); (case n_SoonError_any => k_is); (case n_SoonError_tyC => k_is); (case n_SoonError_fn => k_is); (case n_SoonError_sz => decide); (case n_SoonError_me => k_is); (case n_SoonError_tF => k_is); (case n_SoonError_kF => k_is); (case n_SoonError_lF => k_is); (case n_SoonError_cF => k_is); (case n_SoonError_hb => exact fun _ => rfl); (case n_SoonError_ks => first | kit_is | k_is | kernel_rfl); (case n_SoonError_kv => first | kit_is | k_is | kernel_rfl))
    (case n_BadText => refine' Ev.nm_mk (s := "SoonError") (x := "BadText") rfl rfl ?n_BadText_aC ?n_BadText_aS ?n_BadText_cls ?n_BadText_ga ?n_BadText_gg ?n_BadText_exC ?n_BadText_ha ?n_BadText_hn ?n_BadText_ht ?n_BadText_hm ?n_BadText_any ?n_BadText_tyC ?n_BadText_fn ?n_BadText_sz ?n_BadText_me ?n_BadText_tF ?n_BadText_kF ?n_BadText_lF ?n_BadText_cF ?n_BadText_hb ?n_BadText_ks ?n_BadText_kv; (case n_BadText_aC => k_is); (case n_BadText_aS => k_is); (case n_BadText_cls => k_is); (case n_BadText_ga => k_is); (case n_BadText_gg => k_is); (case n_BadText_exC => k_is); (case n_BadText_ha => k_is); (case n_BadText_hn => k_is); (case n_BadText_ht => k_is); (case n_BadText_hm => k_is); (case n_BadText_any => k_is); (case n_BadText_tyC => k_is); (case n_BadText_fn => k_is); (case n_BadText_sz => decide); (case n_BadText_me => k_is); (case n_BadText_tF => k_is); (case n_BadText_kF => k_is); (case n_BadText_lF => k_is); (case n_BadText_cF => k_is); (case n_BadText_hb => exact fun _ => rfl); (case n_BadText_ks => first | kit_is | k_is | kernel_rfl); (case n_BadText_kv => first | kit_is | k_is | kernel_rfl))
    (case n_BadTree => refine' Ev.nm_mk (s := "SoonError") (x := "BadTree") rfl rfl ?n_BadTree_aC ?n_BadTree_aS ?n_BadTree_cls ?n_BadTree_ga ?n_BadTree_gg ?n_BadTree_exC ?n_BadTree_ha ?n_BadTree_hn ?n_BadTree_ht ?n_BadTree_hm ?n_BadTree_any ?n_BadTree_tyC ?n_BadTree_fn ?n_BadTree_sz ?n_BadTree_me ?n_BadTree_tF ?n_BadTree_kF ?n_BadTree_lF ?n_BadTree_cF ?n_BadTree_hb ?n_BadTree_ks ?n_BadTree_kv; (case n_BadTree_aC => k_is); (case n_BadTree_aS => k_is); (case n_BadTree_cls => k_is); (case n_BadTree_ga => k_is); (case n_BadTree_gg => k_is); (case n_BadTree_exC => k_is); (case n_BadTree_ha => k_is); (case n_BadTree_hn => k_is); (case n_BadTree_ht => k_is); (case n_BadTree_hm => k_is); (case n_BadTree_any => k_is); (case n_BadTree_tyC => k_is); (case n_BadTree_fn => k_is); (case n_BadTree_sz => decide); (case n_BadTree_me => k_is); (case n_BadTree_tF => k_is); (case n_BadTree_kF => k_is); (case n_BadTree_lF => k_is); (case n_BadTree_cF => k_is); (case n_BadTree_hb => exact fun _ => rfl); (case n_BadTree_ks => first | kit_is | k_is | kernel_rfl); (case n_BadTree_kv => first | kit_is | k_is | kernel_rfl))
    (case n_BadLog => refine' Ev.nm_mk (s := "SoonError") (x := "BadLog") rfl rfl ?n_BadLog_aC ?n_BadLog_aS ?n_BadLog_cls ?n_BadLog_ga ?n_BadLog_gg ?n_BadLog_exC ?n_BadLog_ha ?n_BadLog_hn ?n_BadLog_ht ?n_BadLog_hm ?n_BadLog_any ?n_BadLog_tyC ?n_BadLog_fn ?n_BadLog_sz ?n_BadLog_me ?n_BadLog_tF ?n_BadLog_kF ?n_BadLog_lF ?n_BadLog_cF ?n_BadLog_hb ?n_BadLog_ks ?n_BadLog_kv; (case n_BadLog_aC => k_is); (case n_BadLog_aS => k_is); (case n_BadLog_cls => k_is); (case n_BadLog_ga => k_is); (case n_BadLog_gg => k_is); (case n_BadLog_exC => k_is); (case n_BadLog_ha => k_is); (case n_BadLog_hn => k_is); (case n_BadLog_ht => k_is); (case n_BadLog_hm => k_is); (case n_BadLog_any => k_is); (case n_BadLog_tyC => k_is); (case n_BadLog_fn => k_is); (case n_BadLog_sz => decide); (case n_BadLog_me => k_is); (case n_BadLog_tF => k_is); (case n_BadLog_kF => k_is); (case n_BadLog_lF => k_is); (case n_BadLog_cF => k_is); (case n_BadLog_hb => exact fun _ => rfl); (case n_BadLog_ks => first | kit_is | k_is | kernel_rfl); (case n_BadLog_kv => first | kit_is | k_is | kernel_rfl))
    (case n_NoCommand => refine' Ev.nm_mk (s := "SoonError") (x := "NoCommand") rfl rfl ?n_NoCommand_aC ?n_NoCommand_aS ?n_NoCommand_cls ?n_NoCommand_ga ?n_NoCommand_gg ?n_NoCommand_exC ?n_NoCommand_ha ?n_NoCommand_hn ?n_NoCommand_ht ?n_NoCommand_hm ?n_NoCommand_any ?n_NoCommand_tyC ?n_NoCommand_fn ?n_NoCommand_sz ?n_NoCommand_me ?n_NoCommand_tF ?n_NoCommand_kF ?n_NoCommand_lF ?n_NoCommand_cF ?n_NoCommand_hb ?n_NoCommand_ks ?n_NoCommand_kv; (case n_NoCommand_aC => k_is); (case n_NoCommand_aS => k_is); (case n_NoCommand_cls => k_is); (case n_NoCommand_ga => k_is); (case n_NoCommand_gg => k_is); (case n_NoCommand_exC => k_is); (case n_NoCommand_ha => k_is); (case n_NoCommand_hn => k_is); (case n_NoCommand_ht => k_is); (case n_NoCommand_hm => k_is); (case n_NoCommand_any => k_is); (case n_NoCommand_tyC => k_is); (case n_NoCommand_fn => k_is); (case n_NoCommand_sz => decide); (case n_NoCommand_me => k_is); (case n_NoCommand_tF => k_is); (case n_NoCommand_kF => k_is); (case n_NoCommand_lF => k_is); (case n_NoCommand_cF => k_is); (case n_NoCommand_hb => exact fun _ => rfl); (case n_NoCommand_ks => first | kit_is | k_is | kernel_rfl); (case n_NoCommand_kv => first | kit_is | k_is | kernel_rfl))
    (case n_Nothing => refine' Ev.nm_mk (s := "SoonError") (x := "Nothing") rfl rfl ?n_Nothing_aC ?n_Nothing_aS ?n_Nothing_cls ?n_Nothing_ga ?n_Nothing_gg ?n_Nothing_exC ?n_Nothing_ha ?n_Nothing_hn ?n_Nothing_ht ?n_Nothing_hm ?n_Nothing_any ?n_Nothing_tyC ?n_Nothing_fn ?n_Nothing_sz ?n_Nothing_me ?n_Nothing_tF ?n_Nothing_kF ?n_Nothing_lF ?n_Nothing_cF ?n_Nothing_hb ?n_Nothing_ks ?n_Nothing_kv; (case n_Nothing_aC => k_is); (case n_Nothing_aS => k_is); (case n_Nothing_cls => k_is); (case n_Nothing_ga => k_is); (case n_Nothing_gg => k_is); (case n_Nothing_exC => k_is); (case n_Nothing_ha => k_is); (case n_Nothing_hn => k_is); (case n_Nothing_ht => k_is); (case n_Nothing_hm => k_is); (case n_Nothing_any => k_is); (case n_Nothing_tyC => k_is); (case n_Nothing_fn => k_is); (case n_Nothing_sz => decide); (case n_Nothing_me => k_is); (case n_Nothing_tF => k_is); (case n_Nothing_kF => k_is); (case n_Nothing_lF => k_is); (case n_Nothing_cF => k_is); (case n_Nothing_hb => exact fun _ => rfl); (case n_Nothing_ks => first | kit_is | k_is | kernel_rfl); (case n_Nothing_kv => first | kit_is | k_is | kernel_rfl))
    (case n_TooLarge => refine' Ev.nm_mk (s := "SoonError") (x := "TooLarge") rfl rfl ?n_TooLarge_aC ?n_TooLarge_aS ?n_TooLarge_cls ?n_TooLarge_ga ?n_TooLarge_gg ?n_TooLarge_exC ?n_TooLarge_ha ?n_TooLarge_hn ?n_TooLarge_ht ?n_TooLarge_hm ?n_TooLarge_any ?n_TooLarge_tyC ?n_TooLarge_fn ?n_TooLarge_sz ?n_TooLarge_me ?n_TooLarge_tF ?n_TooLarge_kF ?n_TooLarge_lF ?n_TooLarge_cF ?n_TooLarge_hb ?n_TooLarge_ks ?n_TooLarge_kv; (case n_TooLarge_aC => k_is); (case n_TooLarge_aS => k_is); (case n_TooLarge_cls => k_is); (case n_TooLarge_ga => k_is); (case n_TooLarge_gg => k_is); (case n_TooLarge_exC => k_is); (case n_TooLarge_ha => k_is); (case n_TooLarge_hn => k_is); (case n_TooLarge_ht => k_is); (case n_TooLarge_hm => k_is); (case n_TooLarge_any => k_is); (case n_TooLarge_tyC => k_is); (case n_TooLarge_fn => k_is); (case n_TooLarge_sz => decide); (case n_TooLarge_me => k_is); (case n_TooLarge_tF => k_is); (case n_TooLarge_kF => k_is); (case n_TooLarge_lF => k_is); (case n_TooLarge_cF => k_is); (case n_TooLarge_hb => exact fun _ => rfl); (case n_TooLarge_ks => first | kit_is | k_is | kernel_rfl); (case n_TooLarge_kv => first | kit_is | k_is | kernel_rfl))
    (case e_SoonError => refine' Ev.er0_mk KX G rfl ?e_SoonError_a ?e_SoonError_q ?e_SoonError_k ?e_SoonError_e1 ?e_SoonError_e2; (case e_SoonError_a => k_is); (case e_SoonError_q => first | k_is | kernel_rfl | exact rfl); (case e_SoonError_k => k_is); (case e_SoonError_e1 => k_is); (case e_SoonError_e2 => k_is))
    (case e_Nothing => refine' Ev.er0_mk KX G rfl ?e_Nothing_a ?e_Nothing_q ?e_Nothing_k ?e_Nothing_e1 ?e_Nothing_e2; (case e_Nothing_a => k_is); (case e_Nothing_q => first | k_is | kernel_rfl | exact rfl); (case e_Nothing_k => k_is); (case e_Nothing_e1 => k_is); (case e_Nothing_e2 => k_is))
    (case t_SoonError => refine' K00.t_mk_SoonError ?t_SoonError_aX ?t_SoonError_eX ?t_SoonError_iX ?t_SoonError_tX ?t_SoonError_a7 ?t_SoonError_m7 ?t_SoonError_a8 ?t_SoonError_m8 ?t_SoonError_a9 ?t_SoonError_m9 ?t_SoonError_a10 ?t_SoonError_m10 ?t_SoonError_a11 ?t_SoonError_m11 ?t_SoonError_a12 ?t_SoonError_m12 ?t_SoonError_a13 ?t_SoonError_m13; (case t_SoonError_aX => k_is); (case t_SoonError_eX => k_is); (case t_SoonError_iX => k_is); (case t_SoonError_tX => k_is); (case t_SoonError_a7 => k_is); (case t_SoonError_m7 => k_is); (case t_SoonError_a8 => k_is); (case t_SoonError_m8 => k_is); (case t_SoonError_a9 => k_is); (case t_SoonError_m9 => k_is); (case t_SoonError_a10 => k_is); (case t_SoonError_m10 => k_is); (case t_SoonError_a11 => k_is); (case t_SoonError_m11 => k_is); (case t_SoonError_a12 => k_is); (case t_SoonError_m12 => k_is); (case t_SoonError_a13 => k_is); (case t_SoonError_m13 => k_is))
    (case d__law_bag => refine' Ev.def_mk ?d__law_bag_a ?d__law_bag_l ?d__law_bag_c ?d__law_bag_k; (case d__law_bag_a => k_is); (case d__law_bag_l => k_is); (case d__law_bag_c => k_is); (case d__law_bag_k => k_is))
    (case d__law_take => refine' Ev.def_mk ?d__law_take_a ?d__law_take_l ?d__law_take_c ?d__law_take_k; (case d__law_take_a => k_is); (case d__law_take_l => k_is); (case d__law_take_c => k_is); (case d__law_take_k => k_is))
    (case d__law_some => refine' Ev.def_mk ?d__law_some_a ?d__law_some_l ?d__law_some_c ?d__law_some_k; (case d__law_some_a => k_is); (case d__law_some_l => k_is); (case d__law_some_c => k_is); (case d__law_some_k => k_is))
    (case d__law_alike => refine' Ev.def_mk ?d__law_alike_a ?d__law_alike_l ?d__law_alike_c ?d__law_alike_k; (case d__law_alike_a => k_is); (case d__law_alike_l => k_is); (case d__law_alike_c => k_is); (case d__law_alike_k => k_is))
    (case d__law_error => refine' Ev.def_mk ?d__law_error_a ?d__law_error_l ?d__law_error_c ?d__law_error_k; (case d__law_error_a => k_is); (case d__law_error_l => k_is); (case d__law_error_c => k_is); (case d__law_error_k => k_is))
    (case d__law_raised => refine' Ev.def_mk ?d__law_raised_a ?d__law_raised_l ?d__law_raised_c ?d__law_raised_k; (case d__law_raised_a => k_is); (case d__law_raised_l => k_is); (case d__law_raised_c => k_is); (case d__law_raised_k => k_is))
    (case d_law => refine' Ev.def_mk ?d_law_a ?d_law_l ?d_law_c ?d_law_k; (case d_law_a => k_is); (case d_law_l => k_is); (case d_law_c => k_is); (case d_law_k => k_is))
