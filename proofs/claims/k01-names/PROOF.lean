import PyProof.Rows.All
import Wide.All
import OpenK.AllK
import Wide.FinOn
import HandS.ForMost
import HandS.ForExc
import HandS.TupAny
import HandS.IsInst
import HandS.SortInts
import HandS.More
import HandS.Codes
import HandS.Flt
import HandS.ExcIs
import HandS.Conv
import HandS.Style
import HandS.TupLen
import HandS.TupSets
import KE.KSortTupG
import HandS.SetFor
import HandS.Strs
import KE.RegKIsAll
import PySem.Challenge.RW_fixworlds_k01_names
set_option Elab.async false
set_option linter.all false
set_option maxRecDepth 100000
set_option maxHeartbeats 4000000
/-! # Ev 1: values, owned trees, what stands for them in a heap -/
namespace Ev
open PySem L2

/-- frozen data -/
inductive PV where
  | non | bl (b : Bool) | int (i : Int) | str (s : Str)
  | tup (l : List PV) | lst (l : List PV) | dct (l : List (PV × PV)) | ins (c : Str) (fs : List (Str × PV))
  /-- the script -/
  | scr (ns : List Int)
  /-- a dict whose keys are tuples -/
  | dtt (l : List (List Key × V))
/-- a mutable tree that has one owner; its leaves are frozen -/
inductive OV where
  | val (p : PV) | lst (l : List OV) | dct (l : List (PV × OV)) | ins (c : Str) (fs : List (Str × OV)) | dtt (l : List (List Key × V))

inductive Res (α : Type) where
  | ok (a : α) | exc (c : Str) (fs : List (Str × PV)) | stuck
def Res.bind {α β : Type} (r : Res α) (f : α → Res β) : Res β := match r with
  | .ok a => f a
  | .exc c fs => .exc c fs
  | .stuck => .stuck
abbrev Env := List (Option OV)
inductive Flow where
  | nx | bk | ct | rt (o : OV)

/-- what the walk stands on: the written part, the module's names -/
structure Gm where
  K : PySem.W.Frag
  mg : Str → Option Value
abbrev _root_.L2.Cx.gm (X : Cx) : Gm := ⟨X.K, X.mg⟩
/-- the class that a module's name holds -/
def cls (mg : Str → Option Value) (c : Str) : Option Addr := match mg c with
  | some (.ref a) => some a
  | _ => none

/-- a dict's key as data -/
def kP : Key → PV
  | .inl i => .int i
  | .inr s => .str s

section
variable (mg : Gm)
/-! ### frozen data in the frozen part F -/
mutual
def Rep (F : Hp) : PV → V → Prop
  | .non, v => v = .non
  | .bl b, v => v = .bl b
  | .int i, v => v = .int i
  | .str s, v => v = .str s
  | .tup l, v => ∃ a vs, v = .ref a ∧ F a = some (.tup vs) ∧ Reps F l vs
  | .lst l, v => ∃ a vs, v = .ref a ∧ F a = some (.lst vs) ∧ Reps F l vs
  | .dct l, v => ∃ a kvs, v = .ref a ∧ Rd F a (.dK kvs) ∧ RepKs F l kvs
  | .ins c fs, v => ∃ a C dx gs, v = .ref a ∧ cls mg.mg c = some C ∧ F a = some (.ins C dx gs) ∧ RepFs F fs gs
  | .scr ns, v => ∃ a, v = .ref a ∧ SqL mg.K F a (ns.map V.int)
  | .dtt l, v => ∃ a, v = .ref a ∧ Rd F a (.dT l)
def Reps (F : Hp) : List PV → List V → Prop
  | [], vs => vs = []
  | p :: l, vs => ∃ v vs', vs = v :: vs' ∧ Rep F p v ∧ Reps F l vs'
def RepKs (F : Hp) : List (PV × PV) → List (Key × V) → Prop
  | [], kvs => kvs = []
  | (k, p) :: l, kvs => ∃ q v kvs', kvs = (q, v) :: kvs' ∧ k = kP q ∧ Rep F p v ∧ RepKs F l kvs'
def RepFs (F : Hp) : List (Str × PV) → List (Str × V) → Prop
  | [], gs => gs = []
  | (f, p) :: l, gs => ∃ v gs', gs = (f, v) :: gs' ∧ Rep F p v ∧ RepFs F l gs'
end

/-! ### an owned tree: A the addresses that it owns -/
mutual
def RepO (F H : Hp) : OV → V → List Addr → Prop
  | .val p, v, A => A = [] ∧ Rep mg F p v
  | .lst l, v, A => ∃ a vs As, v = .ref a ∧ H a = some (.lst vs) ∧ A = a :: As ∧ RepOs F H l vs As
  | .dct l, v, A => ∃ a kvs As, v = .ref a ∧ H a = some (.dK kvs) ∧ A = a :: As ∧ RepOKs F H l kvs As
  | .ins c fs, v, A => ∃ a C dx gs As, v = .ref a ∧ cls mg.mg c = some C ∧ H a = some (.ins C dx gs) ∧ H dx = some (.own a) ∧ A = a :: dx :: As ∧ RepOFs F H fs gs As
  | .dtt l, v, A => ∃ a, v = .ref a ∧ H a = some (.dT l) ∧ A = [a]
def RepOs (F H : Hp) : List OV → List V → List Addr → Prop
  | [], vs, A => vs = [] ∧ A = []
  | o :: l, vs, A => ∃ v vs' A1 A2, vs = v :: vs' ∧ A = A1 ++ A2 ∧ RepO F H o v A1 ∧ RepOs F H l vs' A2
def RepOKs (F H : Hp) : List (PV × OV) → List (Key × V) → List Addr → Prop
  | [], kvs, A => kvs = [] ∧ A = []
  | (k, o) :: l, kvs, A => ∃ q v kvs' A1 A2, kvs = (q, v) :: kvs' ∧ A = A1 ++ A2 ∧ k = kP q ∧ RepO F H o v A1 ∧ RepOKs F H l kvs' A2
def RepOFs (F H : Hp) : List (Str × OV) → List (Str × V) → List Addr → Prop
  | [], gs, A => gs = [] ∧ A = []
  | (f, o) :: l, gs, A => ∃ v gs' A1 A2, gs = (f, v) :: gs' ∧ A = A1 ++ A2 ∧ RepO F H o v A1 ∧ RepOFs F H l gs' A2
end

/-- the slots -/
def REnv (F H : Hp) : Env → L2.St → List Addr → Prop
  | [], σ, A => σ = [] ∧ A = []
  | none :: e, σ, A => ∃ s σ', σ = s :: σ' ∧ REnv F H e σ' A
  | some o :: e, σ, A => ∃ v σ' A1 A2, σ = some v :: σ' ∧ A = A1 ++ A2 ∧ RepO mg F H o v A1 ∧ REnv F H e σ' A2
end

structure Good (F : Hp) (A : List Addr) (H : Hp) : Prop where
  sub : ∀ a o, F a = some o → H a = some o
  nd : A.Nodup
  dis : ∀ a ∈ A, F a = none
  tr : ∀ a ∈ A, H a ≠ none

structure Step (F : Hp) (A : List Addr) (H F' : Hp) (A' : List Addr) (H' : Hp) : Prop where
  ext : ∀ a o, F a = some o → F' a = some o
  frame : ∀ a o, H a = some o → a ∉ A → H' a = some o
  newF : ∀ a, F' a ≠ none → F a = none → a ∈ A ∨ H a = none
  newA : ∀ a ∈ A', a ∈ A ∨ H a = none
  stay : ∀ a, H a ≠ none → H' a ≠ none

theorem Good.sl {F H : Hp} {A B : List Addr} (g : Good F A H) (h : B.Sublist A) : Good F B H :=
  ⟨g.sub, g.nd.sublist h, fun a ha => g.dis a (h.mem ha), fun a ha => g.tr a (h.mem ha)⟩
theorem Good.perm {F H : Hp} {A B : List Addr} (g : Good F A H) (h : A.Perm B) : Good F B H :=
  ⟨g.sub, h.nodup_iff.mp g.nd, fun a ha => g.dis a (h.mem_iff.mpr ha), fun a ha => g.tr a (h.mem_iff.mpr ha)⟩
theorem Good.left {F H : Hp} {A B : List Addr} (g : Good F (A ++ B) H) : Good F A H := g.sl (List.sublist_append_left A B)
theorem Good.right {F H : Hp} {A B : List Addr} (g : Good F (A ++ B) H) : Good F B H := g.sl (List.sublist_append_right A B)

theorem Step.refl {F H : Hp} {A : List Addr} : Step F A H F A H :=
  ⟨fun _ _ h => h, fun _ _ h _ => h, fun a h e => absurd e h, fun a h => .inl h, fun _ h => h⟩
theorem Step.trans {F H F1 H1 F2 H2 : Hp} {A A1 A2 : List Addr} (s : Step F A H F1 A1 H1) (t : Step F1 A1 H1 F2 A2 H2) : Step F A H F2 A2 H2 where
  ext := fun a o h => t.ext a o (s.ext a o h)
  frame := fun a o h na => t.frame a o (s.frame a o h na) fun h1 => by
    rcases s.newA a h1 with z | z
    · exact na z
    · rw [z] at h; cases h
  newF := fun a h e => by
    by_cases q : F1 a = none
    · rcases t.newF a h q with z | z
      · exact s.newA a z
      · by_cases y : H a = none
        · exact .inr y
        · exact absurd z (s.stay a y)
    · exact s.newF a q e
  newA := fun a h => by
    rcases t.newA a h with z | z
    · exact s.newA a z
    · by_cases y : H a = none
      · exact .inr y
      · exact absurd z (s.stay a y)
  stay := fun a h => t.stay a (s.stay a h)
/-- fewer owned behind -/
theorem Step.less {F H F1 H1 : Hp} {A A1 A2 : List Addr} (s : Step F A H F1 A1 H1) (h : ∀ a ∈ A2, a ∈ A1) : Step F A H F1 A2 H1 :=
  ⟨s.ext, s.frame, s.newF, fun a ha => s.newA a (h a ha), s.stay⟩
/-- more owned ahead -/
theorem Step.more {F H F1 H1 : Hp} {A A1 A0 : List Addr} (s : Step F A H F1 A1 H1) (h : ∀ a ∈ A, a ∈ A0) : Step F A0 H F1 A1 H1 :=
  ⟨s.ext, fun a o e n => s.frame a o e fun z => n (h a z), fun a x y => (s.newF a x y).imp (h a) id, fun a x => (s.newA a x).imp (h a) id, s.stay⟩
/-- B, owned beside, is kept -/
theorem Step.beside {F H F1 H1 : Hp} {A A1 B : List Addr} (s : Step F A H F1 A1 H1) (g : Good F (B ++ A) H) (g1 : Good F1 A1 H1) :
    Good F1 (B ++ A1) H1 ∧ Step F (B ++ A) H F1 (B ++ A1) H1 ∧ (∀ a ∈ B, ∀ o, H a = some o → H1 a = some o) := by
  have nb : ∀ a ∈ B, a ∉ A := fun a h1 h2 => (List.nodup_append.mp g.nd).2.2 a h1 a h2 rfl
  refine ⟨⟨g1.sub, List.nodup_append.mpr ⟨g.left.nd, g1.nd, fun a ha b hb e => ?_⟩, fun a ha => ?_, fun a ha => ?_⟩, ⟨s.ext, fun a o h na => s.frame a o h fun z => na (List.mem_append_right _ z), fun a x y => (s.newF a x y).imp (List.mem_append_right _) id, fun a ha => ?_, s.stay⟩, fun a ha o h => s.frame a o h (nb a ha)⟩
  · subst e
    rcases s.newA a hb with z | z
    · exact nb a ha z
    · exact g.tr a (List.mem_append_left _ ha) z
  · rcases List.mem_append.mp ha with z | z
    · by_cases q : F1 a = none
      · exact q
      · rcases s.newF a q (g.dis a (List.mem_append_left _ z)) with y | y
        · exact absurd y (nb a z)
        · exact absurd y (g.tr a (List.mem_append_left _ z))
    · exact g1.dis a z
  · rcases List.mem_append.mp ha with z | z
    · exact s.stay a (g.tr a (List.mem_append_left _ z))
    · exact g1.tr a z
  · rcases List.mem_append.mp ha with z | z
    · exact .inl (List.mem_append_left _ z)
    · exact (s.newA a z).imp (List.mem_append_right _) id

/-! ### what stays -/
section
variable {mg : Gm}
theorem SqL.up {K : PySem.W.Frag} {F F' : Hp} (e : ∀ a o, F a = some o → F' a = some o) {a : Addr} {vs : List V} (h : SqL K F a vs) : SqL K F' a vs := by
  rcases h with (h | ⟨o, h⟩) | h
  · exact .inl (.inl (e _ _ h))
  · exact .inl (.inr ⟨o, e _ _ h⟩)
  · exact .inr h
theorem Rd.up {F F' : Hp} (e : ∀ a o, F a = some o → F' a = some o) {a : Addr} {u : HO} (h : Rd F a u) : Rd F' a u := by
  rcases h with h | ⟨o, h⟩
  · exact .inl (e _ _ h)
  · exact .inr ⟨o, e _ _ h⟩
mutual
theorem Rep.up {F F' : Hp} (e : ∀ a o, F a = some o → F' a = some o) : ∀ {p : PV} {v : V}, Rep mg F p v → Rep mg F' p v
  | .non, v, h => h
  | .bl _, v, h => h
  | .int _, v, h => h
  | .str _, v, h => h
  | .tup l, v, h => by
    obtain ⟨a, vs, h1, h2, h3⟩ := h
    exact ⟨a, vs, h1, e _ _ h2, Reps.up e h3⟩
  | .lst l, v, h => by
    obtain ⟨a, vs, h1, h2, h3⟩ := h
    exact ⟨a, vs, h1, e _ _ h2, Reps.up e h3⟩
  | .dct l, v, h => by
    obtain ⟨a, vs, h1, h2, h3⟩ := h
    exact ⟨a, vs, h1, Rd.up e h2, RepKs.up e h3⟩
  | .ins c fs, v, h => by
    obtain ⟨a, C, dx, gs, h1, h2, h3, h4⟩ := h
    exact ⟨a, C, dx, gs, h1, h2, e _ _ h3, RepFs.up e h4⟩
  | .scr ns, v, h => by
    obtain ⟨a, h1, h2⟩ := h
    exact ⟨a, h1, SqL.up e h2⟩
  | .dtt l, v, h => by
    obtain ⟨a, h1, h2⟩ := h
    exact ⟨a, h1, Rd.up e h2⟩
theorem Reps.up {F F' : Hp} (e : ∀ a o, F a = some o → F' a = some o) : ∀ {l : List PV} {vs : List V}, Reps mg F l vs → Reps mg F' l vs
  | [], _, h => h
  | p :: l, _, h => by
    obtain ⟨v, vs', h1, h2, h3⟩ := h
    exact ⟨v, vs', h1, Rep.up e h2, Reps.up e h3⟩
theorem RepKs.up {F F' : Hp} (e : ∀ a o, F a = some o → F' a = some o) : ∀ {l : List (PV × PV)} {vs : List (Key × V)}, RepKs mg F l vs → RepKs mg F' l vs
  | [], _, h => h
  | (k, p) :: l, _, h => by
    obtain ⟨q, v, vs', h1, h2, h3, h4⟩ := h
    exact ⟨q, v, vs', h1, h2, Rep.up e h3, RepKs.up e h4⟩
theorem RepFs.up {F F' : Hp} (e : ∀ a o, F a = some o → F' a = some o) : ∀ {l : List (Str × PV)} {vs : List (Str × V)}, RepFs mg F l vs → RepFs mg F' l vs
  | [], _, h => h
  | (f, p) :: l, _, h => by
    obtain ⟨v, vs', h1, h2, h3⟩ := h
    exact ⟨v, vs', h1, Rep.up e h2, RepFs.up e h3⟩
end
mutual
theorem RepO.up {F F' H H' : Hp} (e : ∀ a o, F a = some o → F' a = some o) : ∀ {p : OV} {v : V} {A : List Addr}, (∀ a ∈ A, ∀ o, H a = some o → H' a = some o) → RepO mg F H p v A → RepO mg F' H' p v A
  | .val p, v, A, k, h => ⟨h.1, Rep.up e h.2⟩
  | .lst l, v, A, k, h => by
    obtain ⟨a, vs, As, h1, h2, rfl, h3⟩ := h
    exact ⟨a, vs, As, h1, k _ (List.mem_cons_self) _ h2, rfl, RepOs.up e (fun b hb => k b (List.mem_cons_of_mem _ hb)) h3⟩
  | .dct l, v, A, k, h => by
    obtain ⟨a, vs, As, h1, h2, rfl, h3⟩ := h
    exact ⟨a, vs, As, h1, k _ (List.mem_cons_self) _ h2, rfl, RepOKs.up e (fun b hb => k b (List.mem_cons_of_mem _ hb)) h3⟩
  | .ins c fs, v, A, k, h => by
    obtain ⟨a, C, dx, gs, As, h1, h2, h3, h5, rfl, h4⟩ := h
    exact ⟨a, C, dx, gs, As, h1, h2, k _ (List.mem_cons_self) _ h3, k _ (List.mem_cons_of_mem _ List.mem_cons_self) _ h5, rfl, RepOFs.up e (fun b hb => k b (List.mem_cons_of_mem _ (List.mem_cons_of_mem _ hb))) h4⟩
  | .dtt l, v, A, k, h => by
    obtain ⟨a, h1, h2, rfl⟩ := h
    exact ⟨a, h1, k _ List.mem_cons_self _ h2, rfl⟩
theorem RepOs.up {F F' H H' : Hp} (e : ∀ a o, F a = some o → F' a = some o) : ∀ {l : List OV} {vs : List V} {A : List Addr}, (∀ a ∈ A, ∀ o, H a = some o → H' a = some o) → RepOs mg F H l vs A → RepOs mg F' H' l vs A
  | [], _, _, k, h => h
  | p :: l, _, _, k, h => by
    obtain ⟨v, vs', A1, A2, h1, rfl, h2, h3⟩ := h
    exact ⟨v, vs', A1, A2, h1, rfl, RepO.up e (fun b hb => k b (List.mem_append_left _ hb)) h2, RepOs.up e (fun b hb => k b (List.mem_append_right _ hb)) h3⟩
theorem RepOKs.up {F F' H H' : Hp} (e : ∀ a o, F a = some o → F' a = some o) : ∀ {l : List (PV × OV)} {vs : List (Key × V)} {A : List Addr}, (∀ a ∈ A, ∀ o, H a = some o → H' a = some o) → RepOKs mg F H l vs A → RepOKs mg F' H' l vs A
  | [], _, _, k, h => h
  | (q, p) :: l, _, _, k, h => by
    obtain ⟨q, v, vs', A1, A2, h1, rfl, hq, h2, h3⟩ := h
    exact ⟨q, v, vs', A1, A2, h1, rfl, hq, RepO.up e (fun b hb => k b (List.mem_append_left _ hb)) h2, RepOKs.up e (fun b hb => k b (List.mem_append_right _ hb)) h3⟩
theorem RepOFs.up {F F' H H' : Hp} (e : ∀ a o, F a = some o → F' a = some o) : ∀ {l : List (Str × OV)} {vs : List (Str × V)} {A : List Addr}, (∀ a ∈ A, ∀ o, H a = some o → H' a = some o) → RepOFs mg F H l vs A → RepOFs mg F' H' l vs A
  | [], _, _, k, h => h
  | (f, p) :: l, _, _, k, h => by
    obtain ⟨v, vs', A1, A2, h1, rfl, h2, h3⟩ := h
    exact ⟨v, vs', A1, A2, h1, rfl, RepO.up e (fun b hb => k b (List.mem_append_left _ hb)) h2, RepOFs.up e (fun b hb => k b (List.mem_append_right _ hb)) h3⟩
end
theorem REnv.up {F F' H H' : Hp} (e : ∀ a o, F a = some o → F' a = some o) : ∀ {env : Env} {σ : L2.St} {A : List Addr}, (∀ a ∈ A, ∀ o, H a = some o → H' a = some o) → REnv mg F H env σ A → REnv mg F' H' env σ A
  | [], _, _, k, h => h
  | none :: l, _, _, k, h => by
    obtain ⟨s, σ', h1, h2⟩ := h
    exact ⟨s, σ', h1, REnv.up e k h2⟩
  | some o :: l, _, _, k, h => by
    obtain ⟨v, vs', A1, A2, h1, rfl, h2, h3⟩ := h
    exact ⟨v, vs', A1, A2, h1, rfl, RepO.up e (fun b hb => k b (List.mem_append_left _ hb)) h2, REnv.up e (fun b hb => k b (List.mem_append_right _ hb)) h3⟩
theorem REnv.len {F H : Hp} : ∀ {env : Env} {σ : L2.St} {A : List Addr}, REnv mg F H env σ A → σ.length = env.length
  | [], _, _, h => by
    rw [h.1]
    all_goals rfl
  | none :: l, _, _, h => by
    obtain ⟨s, σ', rfl, h2⟩ := h
    rw [List.length_cons, List.length_cons, REnv.len h2]
  | some o :: l, _, _, h => by
    obtain ⟨v, vs', A1, A2, rfl, rfl, h2, h3⟩ := h
    rw [List.length_cons, List.length_cons, REnv.len h3]
/-- a slot is taken out -/
theorem REnv.take {F H : Hp} : ∀ {env : Env} {σ : L2.St} {A : List Addr} {i : Nat} {o : OV}, REnv mg F H env σ A → env[i]? = some (some o) →
    ∃ v B A', σ[i]? = some (some v) ∧ RepO mg F H o v B ∧ REnv mg F H (env.set i none) σ A' ∧ A.Perm (B ++ A')
  | [], _, _, i, _, h, e => by simp at e
  | none :: l, _, _, 0, _, h, e => by simp at e
  | none :: l, _, _, i + 1, _, h, e => by
    obtain ⟨s, σ', rfl, h2⟩ := h
    obtain ⟨v, B, A', q1, q2, q3, q4⟩ := REnv.take h2 (i := i) (by simpa using e)
    exact ⟨v, B, A', by simpa using q1, q2, ⟨s, σ', rfl, q3⟩, q4⟩
  | some o :: l, _, _, 0, o', h, e => by
    obtain ⟨v, σ', A1, A2, rfl, rfl, h2, h3⟩ := h
    have e' : o = o' := by simpa using e
    subst e'
    exact ⟨v, A1, A2, rfl, h2, ⟨some v, σ', rfl, h3⟩, List.Perm.refl _⟩
  | some o :: l, _, _, i + 1, o', h, e => by
    obtain ⟨v, σ', A1, A2, rfl, rfl, h2, h3⟩ := h
    obtain ⟨v', B, A', q1, q2, q3, q4⟩ := REnv.take h3 (i := i) (by simpa using e)
    refine ⟨v', B, A1 ++ A', by simpa using q1, q2, ⟨v, σ', A1, A', rfl, rfl, h2, q3⟩, ?_⟩
    exact ((q4.append_left A1).trans (by
      rw [← List.append_assoc, ← List.append_assoc]
      exact List.Perm.append_right _ List.perm_append_comm))
/-- a slot is dropped -/
theorem REnv.drop {F H : Hp} : ∀ {env : Env} {σ : L2.St} {A : List Addr} (i : Nat), REnv mg F H env σ A → ∃ A', REnv mg F H (env.set i none) σ A' ∧ A'.Sublist A
  | [], _, A, _, h => ⟨A, h, List.Sublist.refl _⟩
  | none :: l, _, A, 0, h => ⟨A, h, List.Sublist.refl _⟩
  | none :: l, _, _, i + 1, h => by
    obtain ⟨s, σ', rfl, h2⟩ := h
    obtain ⟨A', q1, q2⟩ := REnv.drop i h2
    exact ⟨A', ⟨s, σ', rfl, q1⟩, q2⟩
  | some o :: l, _, _, 0, h => by
    obtain ⟨v, σ', A1, A2, rfl, rfl, h2, h3⟩ := h
    exact ⟨A2, ⟨some v, σ', rfl, h3⟩, List.sublist_append_right _ _⟩
  | some o :: l, _, _, i + 1, h => by
    obtain ⟨v, σ', A1, A2, rfl, rfl, h2, h3⟩ := h
    obtain ⟨A', q1, q2⟩ := REnv.drop i h3
    exact ⟨A1 ++ A', ⟨v, σ', A1, A', rfl, rfl, h2, q1⟩, List.Sublist.append (List.Sublist.refl _) q2⟩
/-- an empty slot is filled -/
theorem REnv.fill {F H : Hp} : ∀ {env : Env} {σ : L2.St} {A B : List Addr} {i : Nat} {o : OV} {v : V}, REnv mg F H env σ A → env[i]? = some none → RepO mg F H o v B →
    ∃ A', REnv mg F H (env.set i (some o)) (σ.set i (some v)) A' ∧ A'.Perm (B ++ A)
  | [], _, _, _, i, _, _, h, e, _ => by simp at e
  | none :: l, _, _, _, 0, _, v, h, e, r => by
    obtain ⟨s, σ', rfl, h2⟩ := h
    exact ⟨_, ⟨v, σ', _, _, rfl, rfl, r, h2⟩, List.Perm.refl _⟩
  | none :: l, _, _, _, i + 1, _, _, h, e, r => by
    obtain ⟨s, σ', rfl, h2⟩ := h
    obtain ⟨A', q1, q2⟩ := REnv.fill h2 (i := i) (by simpa using e) r
    exact ⟨A', ⟨s, _, rfl, q1⟩, q2⟩
  | some o :: l, _, _, _, 0, _, _, h, e, r => by simp at e
  | some o :: l, _, _, _, i + 1, _, _, h, e, r => by
    obtain ⟨v, σ', A1, A2, rfl, rfl, h2, h3⟩ := h
    obtain ⟨A', q1, q2⟩ := REnv.fill h3 (i := i) (by simpa using e) r
    refine ⟨A1 ++ A', ⟨v, _, A1, A', rfl, rfl, h2, q1⟩, ?_⟩
    exact (q2.append_left A1).trans (by
      rw [← List.append_assoc, ← List.append_assoc]
      exact List.Perm.append_right _ List.perm_append_comm)
end

/-! ### freezing -/
mutual
def fz : OV → PV
  | .val p => p
  | .lst l => .lst (fzs l)
  | .dct l => .dct (fzKs l)
  | .ins c fs => .ins c (fzFs fs)
  | .dtt l => .dtt l
def fzs : List OV → List PV
  | [] => []
  | o :: l => fz o :: fzs l
def fzKs : List (PV × OV) → List (PV × PV)
  | [] => []
  | (k, o) :: l => (k, fz o) :: fzKs l
def fzFs : List (Str × OV) → List (Str × PV)
  | [] => []
  | (f, o) :: l => (f, fz o) :: fzFs l
end
/-- the owned addresses B are taken into the frozen part -/
def ice (F H : Hp) (B : List Addr) : Hp := fun a => if a ∈ B then H a else F a
theorem ice_in {F H : Hp} {B : List Addr} {a : Addr} (h : a ∈ B) : ice F H B a = H a := if_pos h
theorem ice_out {F H : Hp} {B : List Addr} {a : Addr} (h : a ∉ B) : ice F H B a = F a := if_neg h
theorem ice_ext {F H : Hp} {B : List Addr} (sub : ∀ a o, F a = some o → H a = some o) : ∀ a o, F a = some o → ice F H B a = some o := fun a o e => by
  by_cases h : a ∈ B
  · rw [ice_in h]; exact sub a o e
  · rw [ice_out h]; exact e
section
variable {mg : Gm}
mutual
theorem RepO.ice {F G H : Hp} (e : ∀ a o, F a = some o → G a = some o) : ∀ {o : OV} {v : V} {A : List Addr}, (∀ a ∈ A, ∀ u, H a = some u → G a = some u) → RepO mg F H o v A → Rep mg G (fz o) v
  | .val p, v, A, k, h => Rep.up e h.2
  | .lst l, v, A, k, h => by
    obtain ⟨a, vs, As, h1, h2, rfl, h3⟩ := h
    exact ⟨a, vs, h1, k _ List.mem_cons_self _ h2, RepOs.ice e (fun b hb => k b (List.mem_cons_of_mem _ hb)) h3⟩
  | .dct l, v, A, k, h => by
    obtain ⟨a, vs, As, h1, h2, rfl, h3⟩ := h
    exact ⟨a, vs, h1, .inl (k _ List.mem_cons_self _ h2), RepOKs.ice e (fun b hb => k b (List.mem_cons_of_mem _ hb)) h3⟩
  | .ins c fs, v, A, k, h => by
    obtain ⟨a, C, dx, gs, As, h1, h2, h3, h5, rfl, h4⟩ := h
    exact ⟨a, C, dx, gs, h1, h2, k _ List.mem_cons_self _ h3, RepOFs.ice e (fun b hb => k b (List.mem_cons_of_mem _ (List.mem_cons_of_mem _ hb))) h4⟩
  | .dtt l, v, A, k, h => by
    obtain ⟨a, h1, h2, rfl⟩ := h
    exact ⟨a, h1, .inl (k _ List.mem_cons_self _ h2)⟩
theorem RepOs.ice {F G H : Hp} (e : ∀ a o, F a = some o → G a = some o) : ∀ {l : List OV} {vs : List V} {A : List Addr}, (∀ a ∈ A, ∀ u, H a = some u → G a = some u) → RepOs mg F H l vs A → Reps mg G (fzs l) vs
  | [], _, _, k, h => h.1
  | p :: l, _, _, k, h => by
    obtain ⟨v, vs', A1, A2, h1, rfl, h2, h3⟩ := h
    exact ⟨v, vs', h1, RepO.ice e (fun b hb => k b (List.mem_append_left _ hb)) h2, RepOs.ice e (fun b hb => k b (List.mem_append_right _ hb)) h3⟩
theorem RepOKs.ice {F G H : Hp} (e : ∀ a o, F a = some o → G a = some o) : ∀ {l : List (PV × OV)} {vs : List (Key × V)} {A : List Addr}, (∀ a ∈ A, ∀ u, H a = some u → G a = some u) → RepOKs mg F H l vs A → RepKs mg G (fzKs l) vs
  | [], _, _, k, h => h.1
  | (q, p) :: l, _, _, k, h => by
    obtain ⟨q, v, vs', A1, A2, h1, rfl, hq, h2, h3⟩ := h
    exact ⟨q, v, vs', h1, hq, RepO.ice e (fun b hb => k b (List.mem_append_left _ hb)) h2, RepOKs.ice e (fun b hb => k b (List.mem_append_right _ hb)) h3⟩
theorem RepOFs.ice {F G H : Hp} (e : ∀ a o, F a = some o → G a = some o) : ∀ {l : List (Str × OV)} {vs : List (Str × V)} {A : List Addr}, (∀ a ∈ A, ∀ u, H a = some u → G a = some u) → RepOFs mg F H l vs A → RepFs mg G (fzFs l) vs
  | [], _, _, k, h => h.1
  | (f, p) :: l, _, _, k, h => by
    obtain ⟨v, vs', A1, A2, h1, rfl, h2, h3⟩ := h
    exact ⟨v, vs', h1, RepO.ice e (fun b hb => k b (List.mem_append_left _ hb)) h2, RepOFs.ice e (fun b hb => k b (List.mem_append_right _ hb)) h3⟩
end
/-- B ++ A owned: B is frozen -/
theorem Good.ice {F H : Hp} {A B : List Addr} (g : Good F (B ++ A) H) : Good (ice F H B) A H ∧ Step F (B ++ A) H (Ev.ice F H B) A H := by
  have nb : ∀ a ∈ B, a ∉ A := fun a h1 h2 => (List.nodup_append.mp g.nd).2.2 a h1 a h2 rfl
  refine ⟨⟨fun a o e => ?_, g.right.nd, fun a ha => ?_, g.right.tr⟩, ⟨ice_ext g.sub, fun _ _ h _ => h, fun a x y => ?_, fun a ha => .inl (List.mem_append_right _ ha), fun _ h => h⟩⟩
  · by_cases h : a ∈ B
    · rw [ice_in h] at e; exact e
    · rw [ice_out h] at e; exact g.sub a o e
  · rw [ice_out fun h => nb a h ha]
    exact g.dis a (List.mem_append_right _ ha)
  · by_cases h : a ∈ B
    · exact .inl (List.mem_append_left _ h)
    · rw [ice_out h] at x; exact absurd y x
end
end Ev

/-! # Ev 2: the judgements -/
namespace Ev
open PySem L2

abbrev FE := Env → Res (OV × Env)
abbrev FT := Env → Res (Bool × Env)
abbrev FA := Env → Res (List OV × Env)
abbrev FS := Env → Res (Flow × Env)
abbrev FG := OV → Env → Option Env
abbrev FI := Env → Res (List PV × Env)

def Run {α : Type} (r : Res α) (P : α → Prop) (E : Str → List (Str × PV) → Prop) : Prop := match r with
  | .ok a => P a
  | .exc c fs => E c fs
  | .stuck => False
def Has {α : Type} (r : Option α) (P : α → Prop) : Prop := match r with
  | some a => P a
  | none => False
def ofO {α : Type} (r : Option α) : Res α := match r with
  | some a => .ok a
  | none => .stuck
theorem Run.ofO {α β : Type} {r : Option α} {f : α → Res β} {P : β → Prop} {E : Str → List (Str × PV) → Prop} (h : Run ((Ev.ofO r).bind f) P E) : Has r fun a => Run (f a) P E := by
  cases r with
  | some a => exact h
  | none => exact h
theorem Has.imp {α : Type} {r : Option α} {P P' : α → Prop} (h : Has r P) (k : ∀ a, P a → P' a) : Has r P' := by
  cases r with
  | some a => exact k a h
  | none => exact h
theorem Run.bind {α β : Type} {r : Res α} {f : α → Res β} {P : β → Prop} {E : Str → List (Str × PV) → Prop} (h : Run (r.bind f) P E) : Run r (fun a => Run (f a) P E) E := by
  cases r with
  | ok a => exact h
  | exc c fs => exact h
  | stuck => exact h
theorem Run.imp {α : Type} {r : Res α} {P P' : α → Prop} {E E' : Str → List (Str × PV) → Prop} (h : Run r P E) (hp : ∀ a, P a → P' a) (he : ∀ c fs, E c fs → E' c fs) : Run r P' E' := by
  cases r with
  | ok a => exact hp _ h
  | exc c fs => exact he _ _ h
  | stuck => exact h

section
variable (mg : Gm)
/-- an exception's own dict -/
def XD (F H : Hp) (fs : List (Str × PV)) (d : Option Addr) : Prop := (fs = [] ∧ d = none) ∨ ∃ dd gs, fs ≠ [] ∧ d = some dd ∧ H dd = some (.xd gs) ∧ F dd = none ∧ RepFs mg F fs gs
def PostX (W : WX) (F : Hp) (A : List Addr) (H : Hp) (σ : L2.St) (c : Str) (fs : List (Str × PV)) : Prop :=
  ∀ F' H' C d, Step F A H F' [] H' → Good F' [] H' → cls mg.mg c = some C → XD mg F' H' fs d → W (.ref C) d σ H'
def PostE (F : Hp) (A : List Addr) (H : Hp) (σ : L2.St) (Q : VK) (x : OV × Env) : Prop :=
  ∀ F' B A' H' v, Step F A H F' (B ++ A') H' → Good F' (B ++ A') H' → REnv mg F' H' x.2 σ A' → RepO mg F' H' x.1 v B → Q v H'
def PostT (F : Hp) (A : List Addr) (H : Hp) (σ : L2.St) (Q : Bool → Hp → Prop) (x : Bool × Env) : Prop :=
  ∀ F' A' H', Step F A H F' A' H' → Good F' A' H' → REnv mg F' H' x.2 σ A' → Q x.1 H'
/-- the arguments that are slots -/
def SlotOk (σ : L2.St) : List (Option Nat) → List V → Prop
  | [], vs => vs = []
  | s :: l, vs => ∃ v vs', vs = v :: vs' ∧ (∀ i, s = some i → σ[i]? = some (some v)) ∧ SlotOk σ l vs'
def PostA (F : Hp) (A : List Addr) (H : Hp) (σ : L2.St) (sl : List (Option Nat)) (Q : List V → Hp → Prop) (x : List OV × Env) : Prop :=
  ∀ F' B A' H' vs, Step F A H F' (B ++ A') H' → Good F' (B ++ A') H' → REnv mg F' H' x.2 σ A' → RepOs mg F' H' x.1 vs B → SlotOk σ sl vs → Q vs H'
/-- all slots but those at ts are as they were -/
def But (ts : List Nat) (σ σ' : L2.St) : Prop := σ'.length = σ.length ∧ ∀ j, j ∉ ts → σ'[j]? = σ[j]?
def PostS (F : Hp) (A : List Addr) (H : Hp) (σ : L2.St) (ts : List Nat) (D : Ends) (x : Flow × Env) : Prop := match x.1 with
  | .nx => ∀ F' A' H' σ', Step F A H F' A' H' → Good F' A' H' → REnv mg F' H' x.2 σ' A' → But ts σ σ' → D.nx σ' H'
  | .bk => ∀ F' A' H' σ', Step F A H F' A' H' → Good F' A' H' → REnv mg F' H' x.2 σ' A' → But ts σ σ' → D.bk σ' H'
  | .ct => ∀ F' A' H' σ', Step F A H F' A' H' → Good F' A' H' → REnv mg F' H' x.2 σ' A' → But ts σ σ' → D.ct σ' H'
  | .rt o => ∀ F' B A' H' σ' v, Step F A H F' (B ++ A') H' → Good F' (B ++ A') H' → REnv mg F' H' x.2 σ' A' → But ts σ σ' → RepO mg F' H' o v B → D.rt v H'
def PostG (F : Hp) (A : List Addr) (H : Hp) (σ : L2.St) (ts : List Nat) (Q : L2.St → Hp → Prop) (x : Env) : Prop :=
  ∀ F' A' H' σ', Step F A H F' A' H' → Good F' A' H' → REnv mg F' H' x σ' A' → But ts σ σ' → Q σ' H'

def tE (W : WX) (f : FE) : TE := fun σ H Q => ∃ F A env, Good F A H ∧ REnv mg F H env σ A ∧ Run (f env) (PostE mg F A H σ Q) (PostX mg W F A H σ)
def tT (W : WX) (f : FT) : TT := fun σ H Q => ∃ F A env, Good F A H ∧ REnv mg F H env σ A ∧ Run (f env) (PostT mg F A H σ Q) (PostX mg W F A H σ)
def tA (W : WX) (sl : List (Option Nat)) (f : FA) : TA := fun σ H Q => ∃ F A env, Good F A H ∧ REnv mg F H env σ A ∧ Run (f env) (PostA mg F A H σ sl Q) (PostX mg W F A H σ)
def tS (W : WX) (ts : List Nat) (f : FS) : TS := fun D σ H => ∃ F A env, Good F A H ∧ REnv mg F H env σ A ∧ Run (f env) (PostS mg F A H σ ts D) (PostX mg W F A H σ)
def tG (ts : List Nat) (g : FG) : TG := fun v σ H Q => ∃ F A B env o, Good F (B ++ A) H ∧ REnv mg F H env σ A ∧ RepO mg F H o v B ∧ Has (g o env) (PostG mg F (B ++ A) H σ ts Q)
/-- what a thing that is walked gives, while the frozen part stands -/
structure Serves (F : Hp) (J : It) (ps : List PV) : Prop where
  go : ∀ H i, (∀ a o, F a = some o → H a = some o) → i < ps.length → J.go i H
  stop : ∀ H i, (∀ a o, F a = some o → H a = some o) → ps.length ≤ i → J.stop i H
  yld : ∀ H i x H', (∀ a o, F a = some o → H a = some o) → i < ps.length → J.yld i H x H' → H' = H ∧ ∃ p, ps[i]? = some p ∧ Rep mg F p x
def tI (W : WX) (f : FI) : TI := fun σ H R => ∃ F A env, Good F A H ∧ REnv mg F H env σ A ∧
  Run (f env) (fun x => ∀ F' A' H' J, Step F A H F' A' H' → Good F' A' H' → REnv mg F' H' x.2 σ A' → Serves mg F' J x.1 → R J H') (PostX mg W F A H σ)
end

abbrev JE (X : Cx) (W : WX) (e : Expr) (f : FE) : Prop := PE X e (tE X.gm W f)
abbrev JT (X : Cx) (W : WX) (e : Expr) (f : FT) : Prop := PT X e (tT X.gm W f)
abbrev JA (X : Cx) (W : WX) (es : List Expr) (sl : List (Option Nat)) (f : FA) : Prop := PA X es (tA X.gm W sl f)
abbrev JS (X : Cx) (W : WX) (ts : List Nat) (st : Stmt) (f : FS) : Prop := PS X st (tS X.gm W ts f)
abbrev JSs (X : Cx) (W : WX) (ts : List Nat) (st : List Stmt) (f : FS) : Prop := PSs X st (tS X.gm W ts f)
abbrev JG (X : Cx) (ts : List Nat) (e : Expr) (g : FG) : Prop := PG X e (tG X.gm ts g)
abbrev JI (X : Cx) (W : WX) (tg e : Expr) (f : FI) : Prop := PI X tg e (tI X.gm W f)

end Ev
/-! ### weaker readings -/
namespace L2
open PySem
section
variable {X : Cx}
theorem PE.imp {e : Expr} {t t' : TE} (h : PE X e t) (k : ∀ σ H Q, t' σ H Q → t σ H Q) : PE X e t' := ⟨fun pins s σ H Q I w => h.run pins s σ H Q I (k _ _ _ w)⟩
theorem PT.imp {e : Expr} {t t' : TT} (h : PT X e t) (k : ∀ σ H Q, t' σ H Q → t σ H Q) : PT X e t' := ⟨fun pins s σ H Q I w => h.run pins s σ H Q I (k _ _ _ w)⟩
theorem PA.imp {e : List Expr} {t t' : TA} (h : PA X e t) (k : ∀ σ H Q, t' σ H Q → t σ H Q) : PA X e t' := ⟨fun pos pins s σ H Q I w => h.run pos pins s σ H Q I (k _ _ _ w)⟩
theorem PS.imp {e : Stmt} {t t' : TS} (h : PS X e t) (k : ∀ D σ H, t' D σ H → t D σ H) : PS X e t' := ⟨fun pins s σ H Q I w => h.run pins s σ H Q I (k _ _ _ w)⟩
theorem PSs.imp {e : List Stmt} {t t' : TS} (h : PSs X e t) (k : ∀ D σ H, t' D σ H → t D σ H) : PSs X e t' := ⟨fun pins s σ H Q I w => h.run pins s σ H Q I (k _ _ _ w)⟩
theorem PI.imp {tg e : Expr} {t t' : TI} (h : PI X tg e t) (k : ∀ σ H R, t' σ H R → t σ H R) : PI X tg e t' := ⟨fun pins s σ H R I w => h.run pins s σ H R I (k _ _ _ w)⟩
end
end L2
namespace Ev
open PySem L2

section
variable {mg : Gm} {W : WX} {F H : Hp} {A : List Addr} {σ : L2.St}
theorem PostX.step {c : Str} {fs : List (Str × PV)} {F1 H1 : Hp} {A1 A2 : List Addr} (h : PostX mg W F A H σ c fs) (s : Step F A H F1 A1 H1) (hA : ∀ a ∈ A2, a ∈ A1) : PostX mg W F1 A2 H1 σ c fs :=
  fun F' H' C d s' g e x => h F' H' C d ((s.less hA).trans s') g e x
theorem But.refl {ts : List Nat} : But ts σ σ := ⟨rfl, fun _ _ => rfl⟩
theorem But.trans {ts : List Nat} {σ1 σ2 : L2.St} (a : But ts σ σ1) (b : But ts σ1 σ2) : But ts σ σ2 := ⟨b.1.trans a.1, fun j h => (b.2 j h).trans (a.2 j h)⟩
theorem But.mono {ts ts' : List Nat} {σ1 : L2.St} (a : But ts σ σ1) (h : ∀ j ∈ ts, j ∈ ts') : But ts' σ σ1 := ⟨a.1, fun j n => a.2 j fun z => n (h j z)⟩
theorem But.set {ts : List Nat} {i : Nat} {v : Option V} (h : i ∈ ts) : But ts σ (σ.set i v) := ⟨List.length_set, fun j n => List.getElem?_set_ne fun e => n (by rw [← e]; exact h)⟩
end

/-! ### constants, names -/
def fC (p : PV) : FE := fun env => .ok (.val p, env)
/-- a name, read as frozen data -/
def fV (i : Nat) : FE := fun env => match env[i]? with
  | some (some (.val p)) => .ok (.val p, env)
  | some (some o) => .ok (.val (fz o), env.set i (some (.val (fz o))))
  | _ => .stuck
/-- a name whose thing is moved out -/
def fM (i : Nat) : FE := fun env => match env[i]? with
  | some (some o) => .ok (o, env.set i none)
  | _ => .stuck
/-- an owned value as frozen data -/
def fZ (f : FE) : FE := fun env => (f env).bind fun x => .ok (.val (fz x.1), x.2)
section
variable {X : Cx} {W : WX}
theorem post_val {mg : Gm} {F H : Hp} {A : List Addr} {σ : L2.St} {Q : VK} {p : PV} {env : Env} {v : V} (h : PostE mg F A H σ Q (.val p, env)) (g : Good F A H) (r : REnv mg F H env σ A) (hv : Rep mg F p v) : Q v H :=
  h F [] A H v Step.refl g r ⟨rfl, hv⟩
theorem je_c {e : Expr} {p : PV} {v : V} (h : PE X e (tC v)) (r : ∀ F : Hp, Rep X.gm F p v) : JE X W e (fC p) := h.imp fun σ H Q ⟨F, A, env, g, re, m⟩ => post_val m g re (r F)
theorem je_non {j pos} : JE X W (.Constant .none j pos) (fC .non) := je_c pe_non fun _ => rfl
theorem je_bl {b j pos} : JE X W (.Constant (.bool b) j pos) (fC (.bl b)) := je_c pe_bl fun _ => rfl
theorem je_int {i j pos} : JE X W (.Constant (.int i) j pos) (fC (.int i)) := je_c pe_int fun _ => rfl
theorem je_str {x y j pos} (h : x = y := by decide +kernel) : JE X W (.Constant (.str x) j pos) (fC (.str y)) := je_c pe_str fun _ => by rw [h]; exact rfl
/-- a slot's thing is frozen where it stands -/
theorem slot_ice {mg : Gm} {F H : Hp} {A : List Addr} {σ : L2.St} {env : Env} {i : Nat} {o : OV} (g : Good F A H) (re : REnv mg F H env σ A) (e : env[i]? = some (some o)) :
    ∃ v F' A', σ[i]? = some (some v) ∧ Rep mg F' (fz o) v ∧ Good F' A' H ∧ Step F A H F' A' H ∧ REnv mg F' H (env.set i (some (.val (fz o)))) σ A' := by
  obtain ⟨v, B, A', e1, ro, r', pm⟩ := re.take e
  have g2 := g.perm pm
  obtain ⟨g3, s3⟩ := g2.ice
  have hi : i < env.length := by
    rw [List.getElem?_eq_some_iff] at e
    exact e.1
  have rp : Rep mg (ice F H B) (fz o) v := ro.ice (ice_ext g.sub) fun a ha u hu => by rw [ice_in ha]; exact hu
  obtain ⟨A2, r2, pm2⟩ := REnv.fill (i := i) (o := .val (fz o)) (v := v) (B := []) (r'.up (ice_ext g.sub) fun a _ o h => h) (by rw [List.getElem?_set_self hi]) ⟨rfl, rp⟩
  rw [List.set_set] at r2
  have es : σ.set i (some v) = σ := by
    rw [List.getElem?_eq_some_iff] at e1
    obtain ⟨h1, h2⟩ := e1
    rw [← h2]
    exact List.set_getElem_self h1
  rw [es] at r2
  exact ⟨v, ice F H B, A2, e1, rp, g3.perm pm2.symm, (s3.more fun a ha => pm.mem_iff.mpr ha).less fun a ha => pm2.mem_iff.mp ha, r2⟩
theorem je_v {e : Expr} {i : Nat} (h : PE X e (tVar i)) : JE X W e (fV i) := h.imp fun σ H Q ⟨F, A, env, g, re, m⟩ => by
  unfold fV at m
  split at m
  · rename_i p hp
    obtain ⟨v, B, A', e1, ro, r', pm⟩ := re.take hp
    exact ⟨v, e1, post_val m g re ro.2⟩
  · rename_i o hn ho
    obtain ⟨v, F', A', e1, rp, g', s', r'⟩ := slot_ice g re ho
    exact ⟨v, e1, m F' [] A' H v s' g' r' ⟨rfl, rp⟩⟩
  · exact m.elim
theorem je_m {e : Expr} {i : Nat} (h : PE X e (tVar i)) : JE X W e (fM i) := h.imp fun σ H Q ⟨F, A, env, g, re, m⟩ => by
  unfold fM at m
  split at m
  · rename_i o ho
    obtain ⟨v, B, A', e1, ro, r', pm⟩ := re.take ho
    exact ⟨v, e1, m F B A' H v (Step.refl.less fun a ha => pm.mem_iff.mpr ha) (g.perm pm) r' ro⟩
  · exact m.elim
theorem je_z {e : Expr} {f : FE} (h : JE X W e f) : JE X W e (fZ f) := PE.imp h fun σ H Q ⟨F, A, env, g, re, m⟩ => ⟨F, A, env, g, re, (Run.bind m).imp (fun x hx F' B A' H' v s g' r' ro => by
  obtain ⟨g3, s3⟩ := g'.ice
  exact hx (ice F' H' B) [] A' H' v (s.trans s3) g3 (r'.up (ice_ext g'.sub) fun a _ o h => h) ⟨rfl, ro.ice (ice_ext g'.sub) fun a ha u hu => by rw [ice_in ha]; exact hu⟩) fun _ _ h => h⟩
end
end Ev

/-! # Ev 3: operators -/
namespace Ev
open PySem L2

theorem good_nil {F H : Hp} {A : List Addr} (g : Good F A H) : Good F [] H := g.sl (List.nil_sublist _)
/-- a step that owns nothing, beside A -/
theorem Step.aside {F H F' H' : Hp} {A B : List Addr} (s : Step F [] H F' B H') (g : Good F A H) (g' : Good F' B H') :
    Good F' (B ++ A) H' ∧ Step F A H F' (B ++ A) H' ∧ ∀ a ∈ A, ∀ o, H a = some o → H' a = some o := by
  have g0 : Good F (A ++ []) H := by rw [List.append_nil]; exact g
  obtain ⟨h1, h2, h3⟩ := s.beside g0 g'
  have pm : (A ++ B).Perm (B ++ A) := List.perm_append_comm
  rw [List.append_nil] at h2
  exact ⟨h1.perm pm, h2.less fun a ha => pm.mem_iff.mpr ha, h3⟩

section
variable (mg : Gm)
/-- what an operation on frozen data leaves -/
def PostO (F H : Hp) (Q : VK) (o : OV) : Prop := ∀ F' B H' v, Step F [] H F' B H' → Good F' B H' → RepO mg F' H' o v B → Q v H'
def Op1 (r : V → Hp → VK → Prop) (g : PV → Res OV) : Prop := ∀ (F H : Hp) (x : V) (p : PV) (Q : VK), Good F [] H → Rep mg F p x → Run (g p) (PostO mg F H Q) (fun _ _ => False) → r x H Q
def Op2 (r : R2) (g : PV → PV → Res OV) : Prop := ∀ (F H : Hp) (x y : V) (p q : PV) (Q : VK), Good F [] H → Rep mg F p x → Rep mg F q y → Run (g p q) (PostO mg F H Q) (fun _ _ => False) → r x y H Q
def OpN (r : List V → Hp → VK → Prop) (g : List PV → Res OV) : Prop := ∀ (F H : Hp) (xs : List V) (ps : List PV) (Q : VK), Good F [] H → Reps mg F ps xs → Run (g ps) (PostO mg F H Q) (fun _ _ => False) → r xs H Q
end
theorem PostO.val {mg : Gm} {F H : Hp} {Q : VK} {p : PV} {v : V} (h : PostO mg F H Q (.val p)) (g : Good F [] H) (r : Rep mg F p v) : Q v H := h F [] H v Step.refl g ⟨rfl, r⟩
/-- a new object -/
theorem new_step {F H : Hp} {a : Addr} {o : HO} (g : Good F [] H) (h : H a = none) : Step F [] H F [a] (upd H a o) ∧ Good F [a] (upd H a o) := by
  have fa : F a = none := by
    cases e : F a with
    | none => rfl
    | some u => rw [g.sub a u e] at h; cases h
  refine ⟨⟨fun _ _ x => x, fun b u e _ => by rw [upd_ne (ne_of_none e h)]; exact e, fun b x y => absurd y x, fun b hb => ?_, fun b hb => ?_⟩, ⟨fun b u e => ?_, by simp, fun b hb => ?_, fun b hb => ?_⟩⟩
  · have e : b = a := by simpa using hb
    subst e
    exact .inr h
  · by_cases e : b = a
    · subst e; rw [upd_same]; exact fun z => nomatch z
    · rw [upd_ne e]; exact hb
  · rw [upd_ne (ne_of_none (g.sub b u e) h)]; exact g.sub b u e
  · have e : b = a := by simpa using hb
    subst e; exact fa
  · have e : b = a := by simpa using hb
    subst e; rw [upd_same]; exact fun z => nomatch z
/-- a new frozen object -/
theorem ice_step {F H : Hp} {a : Addr} {o : HO} (g : Good F [] H) (h : H a = none) : Step F [] H (upd F a o) [] (upd H a o) ∧ Good (upd F a o) [] (upd H a o) := by
  have fa : F a = none := by
    cases e : F a with
    | none => rfl
    | some u => rw [g.sub a u e] at h; cases h
  refine ⟨⟨fun b u e => by rw [upd_ne (ne_of_none e fa)]; exact e, fun b u e _ => by rw [upd_ne (ne_of_none e h)]; exact e, fun b x y => ?_, fun b hb => (nomatch hb), fun b hb => ?_⟩, ⟨fun b u e => ?_, List.nodup_nil, fun b hb => (nomatch hb), fun b hb => (nomatch hb)⟩⟩
  · by_cases e : b = a
    · subst e; exact .inr h
    · rw [upd_ne e] at x; exact absurd y x
  · by_cases e : b = a
    · subst e; rw [upd_same]; exact fun z => nomatch z
    · rw [upd_ne e]; exact hb
  · by_cases q : b = a
    · subst q; rw [upd_same] at e ⊢; exact e
    · rw [upd_ne q] at e ⊢; exact g.sub b u e
theorem PostO.lst {mg : Gm} {F H : Hp} {Q : VK} {ps : List PV} {vs : List V} {a : Addr} (h : PostO mg F H Q (.lst (ps.map .val))) (g : Good F [] H) (n : H a = none) (r : Reps mg F ps vs) : Q (.ref a) (upd H a (.lst vs)) := by
  obtain ⟨s, g'⟩ := new_step (o := .lst vs) g n
  have aux : ∀ (ps : List PV) (vs : List V), Reps mg F ps vs → RepOs mg F (upd H a (.lst vs)) (ps.map .val) vs [] := by
    have aux2 : ∀ (H' : Hp) (ps : List PV) (vs : List V), Reps mg F ps vs → RepOs mg F H' (ps.map .val) vs [] := by
      intro H' ps
      induction ps with
      | nil => intro vs r; exact ⟨r, rfl⟩
      | cons p l ih =>
        intro vs r
        obtain ⟨v, vs', rfl, h1, h2⟩ := r
        exact ⟨v, vs', [], [], rfl, rfl, ⟨rfl, h1⟩, ih _ h2⟩
    exact fun ps vs r => aux2 _ ps vs r
  exact h F [a] _ _ s g' ⟨a, vs, [], rfl, upd_same, rfl, aux ps vs r⟩
theorem PostO.tup {mg : Gm} {F H : Hp} {Q : VK} {ps : List PV} {vs : List V} {a : Addr} (h : PostO mg F H Q (.val (.tup ps))) (g : Good F [] H) (n : H a = none) (r : Reps mg F ps vs) : Q (.ref a) (upd H a (.tup vs)) := by
  obtain ⟨s, g'⟩ := ice_step (o := .tup vs) g n
  exact h _ [] _ _ s g' ⟨rfl, a, vs, rfl, upd_same, r.up s.ext⟩

/-! ### combinators -/
def vl : OV → Res PV
  | .val p => .ok p
  | _ => .stuck
def fO1 (g : PV → Res OV) (f : FE) : FE := fun env => (f env).bind fun x => (vl x.1).bind fun p => (g p).bind fun o => .ok (o, x.2)
def fO2 (g : PV → PV → Res OV) (f1 f2 : FE) : FE := fun env => (f1 env).bind fun x => (vl x.1).bind fun p => (f2 x.2).bind fun y => (vl y.1).bind fun q => (g p q).bind fun o => .ok (o, y.2)
/-- an exception or nothing -/
theorem Run.stk {α : Type} {P : α → Prop} {E : Str → List (Str × PV) → Prop} {r : Res α} (h : Run r P E) : Run r P E := h

section
variable {mg : Gm} {W : WX} {F H : Hp} {A : List Addr} {σ : L2.St}
/-- the end of an operation -/
theorem post_op {Q : VK} {F1 H1 : Hp} {A1 : List Addr} {env1 : Env} {o : OV} (m : PostE mg F A H σ Q (o, env1)) (s : Step F A H F1 A1 H1) (g1 : Good F1 A1 H1) (r1 : REnv mg F1 H1 env1 σ A1) : PostO mg F1 H1 Q o := fun F' B H' v s' g' ro => by
  obtain ⟨q1, q2, q3⟩ := s'.aside g1 g'
  exact m F' B A1 H' v (s.trans q2) q1 (r1.up s'.ext q3) ro
theorem run_no {α : Type} {r : Res α} {P : α → Prop} {E : Str → List (Str × PV) → Prop} (h : Run r P E) (n : ∀ c fs, r ≠ .exc c fs) : Run r P (fun _ _ => False) := by
  cases r with
  | ok a => exact h
  | exc c fs => exact absurd rfl (n c fs)
  | stuck => exact h
end
/-- an operation that raises nothing -/
def Calm1 (g : PV → Res OV) : Prop := ∀ p c fs, g p ≠ .exc c fs
def Calm2 (g : PV → PV → Res OV) : Prop := ∀ p q c fs, g p q ≠ .exc c fs
def CalmN (g : List PV → Res OV) : Prop := ∀ p c fs, g p ≠ .exc c fs

section
variable {X : Cx} {W : WX}
theorem tE_O1 {mg : Gm} {r : V → Hp → VK → Prop} {g : PV → Res OV} {f : FE} (ho : Op1 mg r g) (hc : Calm1 g) {σ : L2.St} {H : Hp} {Q : VK} (h : tE mg W (fO1 g f) σ H Q) : tUn r (tE mg W f) σ H Q := by
  obtain ⟨F, A, env, gd, re, m⟩ := h
  refine ⟨F, A, env, gd, re, (Run.bind m).imp (fun x hx F1 B1 A1 H1 v s1 g1 r1 o1 => ?_) fun _ _ h => h⟩
  cases hx' : x.1 with
  | val p =>
    rw [hx'] at hx o1
    obtain ⟨rfl, rp⟩ := o1
    have hx2 := Run.bind (r := g p) hx
    exact ho F1 H1 v p Q (good_nil g1) rp ((run_no hx2 (hc p)).imp (fun o q => post_op q s1 g1 r1) fun _ _ h => h)
  | lst _ => rw [hx'] at hx; exact hx.elim
  | dct _ => rw [hx'] at hx; exact hx.elim
  | ins _ _ => rw [hx'] at hx; exact hx.elim
  | dtt _ => rw [hx'] at hx; exact hx.elim
theorem tE_O2 {mg : Gm} {r : R2} {g : PV → PV → Res OV} {f1 f2 : FE} (ho : Op2 mg r g) (hc : Calm2 g) {σ : L2.St} {H : Hp} {Q : VK} (h : tE mg W (fO2 g f1 f2) σ H Q) : tOp r (tE mg W f1) (tE mg W f2) σ H Q := by
  obtain ⟨F, A, env, gd, re, m⟩ := h
  refine ⟨F, A, env, gd, re, (Run.bind m).imp (fun x hx F1 B1 A1 H1 v s1 g1 r1 o1 => ?_) fun _ _ h => h⟩
  cases hx' : x.1 with
  | val p =>
    rw [hx'] at hx o1
    obtain ⟨rfl, rp⟩ := o1
    refine ⟨F1, A1, x.2, g1, r1, (Run.bind (r := f2 x.2) hx).imp (fun y hy F2 B2 A2 H2 u s2 g2 r2 o2 => ?_) fun c fs hq => PostX.step hq s1 fun _ z => z⟩
    cases hy' : y.1 with
    | val q =>
      rw [hy'] at hy o2
      obtain ⟨rfl, rq⟩ := o2
      have hy2 := Run.bind (r := g p q) hy
      exact ho F2 H2 v u p q Q (good_nil g2) (rp.up s2.ext) rq ((run_no hy2 (hc p q)).imp (fun o z => post_op z (s1.trans s2) g2 r2) fun _ _ h => h)
    | lst _ => rw [hy'] at hy; exact hy.elim
    | dct _ => rw [hy'] at hy; exact hy.elim
    | ins _ _ => rw [hy'] at hy; exact hy.elim
    | dtt _ => rw [hy'] at hy; exact hy.elim
  | lst _ => rw [hx'] at hx; exact hx.elim
  | dct _ => rw [hx'] at hx; exact hx.elim
  | ins _ _ => rw [hx'] at hx; exact hx.elim
  | dtt _ => rw [hx'] at hx; exact hx.elim

theorem je_o2 {a b : Expr} {pos : Pos} {op : Operator} {r : R2} {g : PV → PV → Res OV} {f1 f2 : FE} (hop : OpR X (binaryOp op) r) (ho : Op2 X.gm r g) (hc : Calm2 g) (ha : JE X W a f1) (hb : JE X W b f2) : JE X W (.BinOp a op b pos) (fO2 g f1 f2) :=
  (pe_op hop ha hb).imp fun _ _ _ h => tE_O2 ho hc h
theorem je_o1 {a : Expr} {pos : Pos} {op : UnaryOp} {r : V → Hp → VK → Prop} {g : PV → Res OV} {f : FE} (hop : UnR X (unaryOp op) r) (ho : Op1 X.gm r g) (hc : Calm1 g) (ha : JE X W a f) : JE X W (.UnaryOp op a pos) (fO1 g f) :=
  (pe_un hop ha).imp fun _ _ _ h => tE_O1 ho hc h
theorem je_cmp {a b : Expr} {pos : Pos} {op : CmpOp} {r : R2} {g : PV → PV → Res OV} {f1 f2 : FE} (hop : OpR X (compareOp op) r) (ho : Op2 X.gm r g) (hc : Calm2 g) (ha : JE X W a f1) (hb : JE X W b f2) (hm : behindInMarks op b = false) : JE X W (.Compare a [op] [b] pos) (fO2 g f1 f2) :=
  (pe_cmpR hop ha hb hm).imp fun _ _ _ h => tE_O2 ho hc h
theorem je_ix {a b : Expr} {pos : Pos} {r : R2} {g : PV → PV → Res OV} {f1 f2 : FE} (hop : IxR X r) (ho : Op2 X.gm r g) (hc : Calm2 g) (ha : JE X W a f1) (hb : JE X W b f2) (hs : PlainIx b) : JE X W (.Subscript a b pos) (fO2 g f1 f2) :=
  (pe_ix hop ha hb hs).imp fun _ _ _ h => tE_O2 ho hc h

/-! ### tests -/
def bl : OV → Res Bool
  | .val (.bl b) => .ok b
  | _ => .stuck
/-- a bool value as a test -/
def fB (f : FE) : FT := fun env => (f env).bind fun x => (bl x.1).bind fun b => .ok (b, x.2)
def fNot (f : FT) : FT := fun env => (f env).bind fun x => .ok (!x.1, x.2)
def fAnd (f1 f2 : FT) : FT := fun env => (f1 env).bind fun x => if x.1 = true then f2 x.2 else .ok (false, x.2)
def fOr (f1 f2 : FT) : FT := fun env => (f1 env).bind fun x => if x.1 = true then .ok (true, x.2) else f2 x.2
theorem tT_B {mg : Gm} {f : FE} {σ : L2.St} {H : Hp} {Q : Bool → Hp → Prop} (h : tT mg W (fB f) σ H Q) : tE mg W f σ H fun x H' => ∃ k, x = .bl k ∧ Q k H' := by
  obtain ⟨F, A, env, gd, re, m⟩ := h
  refine ⟨F, A, env, gd, re, (Run.bind m).imp (fun x hx F1 B1 A1 H1 v s1 g1 r1 o1 => ?_) fun _ _ h => h⟩
  have h2 := Run.bind hx
  obtain ⟨o, env1⟩ := x
  cases o with
  | val p =>
    cases p with
    | bl b =>
      obtain ⟨rfl, rp⟩ := o1
      exact ⟨b, rp, h2 F1 A1 H1 s1 g1 r1⟩
    | _ => exact hx.elim
  | _ => exact hx.elim
theorem jt_cmp {a b : Expr} {pos : Pos} {op : CmpOp} {r : R2} {g : PV → PV → Res OV} {f1 f2 : FE} (hop : OpR X (compareOp op) r) (ho : Op2 X.gm r g) (hc : Calm2 g) (ha : JE X W a f1) (hb : JE X W b f2) (hm : behindInMarks op b = false) : JT X W (.Compare a [op] [b] pos) (fB (fO2 g f1 f2)) :=
  (pt_cmpR hop ha hb hm).imp fun _ _ _ h => by
    obtain ⟨F, A, env, gd, re, m⟩ := tT_B h
    exact tE_O2 ho hc ⟨F, A, env, gd, re, m⟩
theorem jt_val {e : Expr} {f : FE} (h : JE X W e f) (he : ∀ whole, isTrue e X.env whole = (do let v ← whole; standAt e.pos; holding [v] (truthy v)) := by intro _; rfl) : JT X W e (fB f) :=
  (pt_val h he).imp fun _ _ _ h => tT_B h
theorem tT_and {mg : Gm} {f1 f2 : FT} {σ : L2.St} {H : Hp} {Q : Bool → Hp → Prop} (h : tT mg W (fAnd f1 f2) σ H Q) : tAnd (tT mg W f1) (tT mg W f2) σ H Q := by
  obtain ⟨F, A, env, gd, re, m⟩ := h
  refine ⟨F, A, env, gd, re, (Run.bind m).imp (fun x hx F1 A1 H1 s1 g1 r1 => ?_) fun _ _ h => h⟩
  cases hb : x.1 with
  | true =>
    rw [if_pos hb] at hx
    exact ⟨F1, A1, x.2, g1, r1, hx.imp (fun y hy F2 A2 H2 s2 g2 r2 => hy F2 A2 H2 (s1.trans s2) g2 r2) fun c fs hq => PostX.step hq s1 fun _ z => z⟩
  | false =>
    rw [hb, if_neg Bool.false_ne_true] at hx
    exact hx F1 A1 H1 s1 g1 r1
theorem tT_or {mg : Gm} {f1 f2 : FT} {σ : L2.St} {H : Hp} {Q : Bool → Hp → Prop} (h : tT mg W (fOr f1 f2) σ H Q) : tOr (tT mg W f1) (tT mg W f2) σ H Q := by
  obtain ⟨F, A, env, gd, re, m⟩ := h
  refine ⟨F, A, env, gd, re, (Run.bind m).imp (fun x hx F1 A1 H1 s1 g1 r1 => ?_) fun _ _ h => h⟩
  cases hb : x.1 with
  | true =>
    rw [hb, if_pos rfl] at hx
    exact hx F1 A1 H1 s1 g1 r1
  | false =>
    rw [hb, if_neg Bool.false_ne_true] at hx
    exact ⟨F1, A1, x.2, g1, r1, hx.imp (fun y hy F2 A2 H2 s2 g2 r2 => hy F2 A2 H2 (s1.trans s2) g2 r2) fun c fs hq => PostX.step hq s1 fun _ z => z⟩
/-- and, or: a row of tests -/
abbrev JW (X : Cx) (W : WX) (e : Expr) (f : FT) : Prop := PW X e (tT X.gm W f)
theorem jw_and1 {a : Expr} {pos : Pos} {f : FT} (h : JT X W a f) : JW X W (.BoolOp .And [a] pos) f := pw_and1 h
theorem jw_or1 {a : Expr} {pos : Pos} {f : FT} (h : JT X W a f) : JW X W (.BoolOp .Or [a] pos) f := pw_or1 h
theorem PW.imp {e : Expr} {t t' : TT} (h : PW X e t) (k : ∀ σ H Q, t' σ H Q → t σ H Q) : PW X e t' := ⟨fun wh pins s σ H Q I w => h.run wh pins s σ H Q I (k _ _ _ w)⟩
theorem jw_and {a b : Expr} {rest : List Expr} {pos : Pos} {f1 f2 : FT} (ha : JT X W a f1) (hb : JW X W (.BoolOp .And (b :: rest) pos) f2) : JW X W (.BoolOp .And (a :: b :: rest) pos) (fAnd f1 f2) :=
  PW.imp (pw_and ha hb) fun _ _ _ h => tT_and h
theorem jw_or {a b : Expr} {rest : List Expr} {pos : Pos} {f1 f2 : FT} (ha : JT X W a f1) (hb : JW X W (.BoolOp .Or (b :: rest) pos) f2) : JW X W (.BoolOp .Or (a :: b :: rest) pos) (fOr f1 f2) :=
  PW.imp (pw_or ha hb) fun _ _ _ h => tT_or h
theorem jt_w {e : Expr} {f : FT} (h : JW X W e f) : JT X W e f := h.pt
theorem jt_not {a : Expr} {pos : Pos} {f : FT} (h : JT X W a f) : JT X W (.UnaryOp .Not a pos) (fNot f) := (pt_not h).imp fun _ _ _ h => by
  obtain ⟨F, A, env, gd, re, m⟩ := h
  exact ⟨F, A, env, gd, re, (Run.bind m).imp (fun x hx F1 A1 H1 s1 g1 r1 => hx F1 A1 H1 s1 g1 r1) fun _ _ h => h⟩
/-! .. as values (bools) -/
def fAndV (f1 f2 : FE) : FE := fun env => (f1 env).bind fun x => (bl x.1).bind fun b => if b = true then f2 x.2 else .ok (.val (.bl false), x.2)
def fOrV (f1 f2 : FE) : FE := fun env => (f1 env).bind fun x => (bl x.1).bind fun b => if b = true then .ok (.val (.bl true), x.2) else f2 x.2
def fNotV (f : FE) : FE := fun env => (f env).bind fun x => (bl x.1).bind fun b => .ok (.val (.bl (!b)), x.2)
/-- a if t else b -/
def fIf (t : FT) (f1 f2 : FE) : FE := fun env => (t env).bind fun x => if x.1 = true then f1 x.2 else f2 x.2
theorem bl_of {mg : Gm} {F H : Hp} {o : OV} {v : V} {B : List Addr} {β : Type} {k : Bool → Res β} {P : β → Prop} {E : Str → List (Str × PV) → Prop} (h : Run ((bl o).bind k) P E) (r : RepO mg F H o v B) : ∃ b, v = .bl b ∧ B = [] ∧ Run (k b) P E := by
  cases o with
  | val p =>
    cases p with
    | bl b => exact ⟨b, r.2, r.1, h⟩
    | _ => exact h.elim
  | _ => exact h.elim
theorem je_one {op} {a : Expr} {pos : Pos} {f : FE} (h : JE X W a f) : JE X W (.BoolOp op [a] pos) f := pe_one h
theorem PostE.step {mg : Gm} {F H F1 H1 : Hp} {A A1 A2 : List Addr} {σ : L2.St} {Q : VK} {x : OV × Env} (h : PostE mg F A H σ Q x) (s : Step F A H F1 A1 H1) (hA : ∀ a ∈ A2, a ∈ A1) : PostE mg F1 A2 H1 σ Q x :=
  fun F' B A' H' v s' g r o => h F' B A' H' v ((s.less hA).trans s') g r o
theorem je_and {a b : Expr} {rest : List Expr} {pos : Pos} {f1 f2 : FE} (ha : JE X W a f1) (hb : JE X W (.BoolOp .And (b :: rest) pos) f2) : JE X W (.BoolOp .And (a :: b :: rest) pos) (fAndV f1 f2) := (pe_and ha hb).imp fun σ H Q h => by
  obtain ⟨F, A, env, gd, re, m⟩ := h
  refine ⟨F, A, env, gd, re, (Run.bind m).imp (fun x hx F1 B1 A1 H1 v s1 g1 r1 o1 => ?_) fun _ _ h => h⟩
  obtain ⟨b, rfl, rfl, h2⟩ := bl_of hx o1
  refine ⟨b, rfl, ?_⟩
  cases b with
  | true =>
    rw [if_pos rfl] at h2 ⊢
    exact ⟨F1, A1, x.2, g1, r1, h2.imp (fun y hy => hy.step s1 fun _ z => z) fun c fs hq => PostX.step hq s1 fun _ z => z⟩
  | false =>
    rw [if_neg Bool.false_ne_true] at h2 ⊢
    exact h2 F1 [] A1 H1 _ s1 g1 r1 ⟨rfl, rfl⟩
theorem je_or {a b : Expr} {rest : List Expr} {pos : Pos} {f1 f2 : FE} (ha : JE X W a f1) (hb : JE X W (.BoolOp .Or (b :: rest) pos) f2) : JE X W (.BoolOp .Or (a :: b :: rest) pos) (fOrV f1 f2) := (pe_or ha hb).imp fun σ H Q h => by
  obtain ⟨F, A, env, gd, re, m⟩ := h
  refine ⟨F, A, env, gd, re, (Run.bind m).imp (fun x hx F1 B1 A1 H1 v s1 g1 r1 o1 => ?_) fun _ _ h => h⟩
  obtain ⟨b, rfl, rfl, h2⟩ := bl_of hx o1
  refine ⟨b, rfl, ?_⟩
  cases b with
  | true =>
    rw [if_pos rfl] at h2 ⊢
    exact h2 F1 [] A1 H1 _ s1 g1 r1 ⟨rfl, rfl⟩
  | false =>
    rw [if_neg Bool.false_ne_true] at h2 ⊢
    exact ⟨F1, A1, x.2, g1, r1, h2.imp (fun y hy => hy.step s1 fun _ z => z) fun c fs hq => PostX.step hq s1 fun _ z => z⟩
theorem je_not {a : Expr} {pos : Pos} {f : FE} (ha : JE X W a f) : JE X W (.UnaryOp .Not a pos) (fNotV f) := (pe_not ha).imp fun σ H Q h => by
  obtain ⟨F, A, env, gd, re, m⟩ := h
  refine ⟨F, A, env, gd, re, (Run.bind m).imp (fun x hx F1 B1 A1 H1 v s1 g1 r1 o1 => ?_) fun _ _ h => h⟩
  obtain ⟨b, rfl, rfl, h2⟩ := bl_of hx o1
  exact ⟨b, rfl, h2 F1 [] A1 H1 _ s1 g1 r1 ⟨rfl, rfl⟩⟩
theorem je_if {c a b : Expr} {pos : Pos} {t : FT} {f1 f2 : FE} (hc : JT X W c t) (ha : JE X W a f1) (hb : JE X W b f2) : JE X W (.IfExp c a b pos) (fIf t f1 f2) := (pe_ifExp hc ha hb).imp fun σ H Q h => by
  obtain ⟨F, A, env, gd, re, m⟩ := h
  refine ⟨F, A, env, gd, re, (Run.bind m).imp (fun x hx F1 A1 H1 s1 g1 r1 => ?_) fun _ _ h => h⟩
  cases hb : x.1 with
  | true =>
    rw [if_pos hb] at hx
    rw [if_pos rfl]
    exact ⟨F1, A1, x.2, g1, r1, hx.imp (fun y hy => hy.step s1 fun _ z => z) fun c fs hq => PostX.step hq s1 fun _ z => z⟩
  | false =>
    rw [hb, if_neg Bool.false_ne_true] at hx
    rw [if_neg Bool.false_ne_true]
    exact ⟨F1, A1, x.2, g1, r1, hx.imp (fun y hy => hy.step s1 fun _ z => z) fun c fs hq => PostX.step hq s1 fun _ z => z⟩
end
end Ev

/-! # Ev 4: arguments, displays, statements -/
namespace Ev
open PySem L2

/-! ### arguments -/
def fA0 : FA := fun env => .ok ([], env)
def fA1 (f : FE) (fa : FA) : FA := fun env => (f env).bind fun x => (fa x.2).bind fun y => .ok (x.1 :: y.1, y.2)
theorem SlotOk.len {σ : L2.St} : ∀ {sl : List (Option Nat)} {vs : List V}, SlotOk σ sl vs → vs.length = sl.length
  | [], _, h => by
    rw [show _ = [] from h]
    all_goals rfl
  | s :: l, _, h => by
    obtain ⟨v, vs', rfl, _, h2⟩ := h
    rw [List.length_cons, List.length_cons, SlotOk.len h2]
section
variable {X : Cx} {W : WX}
theorem ja_0 : JA X W [] [] fA0 := PA.imp pa_nil fun σ H Q ⟨F, A, env, g, re, m⟩ => m F [] A H [] Step.refl g re ⟨rfl, rfl⟩ rfl
theorem tA_cons {mg : Gm} {te : TE} {f : FE} {fa : FA} {s : Option Nat} {sl : List (Option Nat)} {σ : L2.St} {H : Hp} {Q : List V → Hp → Prop}
    (he : ∀ {F H : Hp} {A : List Addr} {env : Env} {Q : VK}, Good F A H → REnv mg F H env σ A → Run (f env) (fun x => ∀ F' B A' H' v, Step F A H F' (B ++ A') H' → Good F' (B ++ A') H' → REnv mg F' H' x.2 σ A' → RepO mg F' H' x.1 v B → (∀ i, s = some i → σ[i]? = some (some v)) → Q v H') (PostX mg W F A H σ) → te σ H Q)
    (h : tA mg W (s :: sl) (fA1 f fa) σ H Q) : tCons te (tA mg W sl fa) σ H Q := by
  obtain ⟨F, A, env, gd, re, m⟩ := h
  refine he gd re ((Run.bind m).imp (fun x hx F1 B1 A1 H1 v s1 g1 r1 o1 hs => ?_) fun _ _ h => h)
  refine ⟨F1, A1, x.2, g1.right, r1, (Run.bind hx).imp (fun y hy F2 B2 A2 H2 vs s2 g2 r2 o2 ho => ?_) fun c fs hq => PostX.step hq s1 fun _ z => List.mem_append_right _ z⟩
  obtain ⟨q1, q2, q3⟩ := s2.beside g1 g2
  have hy' : PostA mg F A H σ (s :: sl) Q (x.1 :: y.1, y.2) := hy
  refine hy' F2 (B1 ++ B2) A2 H2 (v :: vs) ?_ ?_ r2 ⟨v, vs, B1, B2, rfl, rfl, o1.up s2.ext q3, o2⟩ ⟨v, vs, rfl, hs, ho⟩
  · rw [List.append_assoc]; exact s1.trans q2
  · rw [List.append_assoc]; exact q1
theorem ja_1 {e : Expr} {es : List Expr} {f : FE} {fa : FA} {sl : List (Option Nat)} (ha : JE X W e f) (hr : JA X W es sl fa) (hs : starEach (e :: es) X.env = (false, eval e X.env) :: starEach es X.env := by rfl) : JA X W (e :: es) (none :: sl) (fA1 f fa) :=
  PA.imp (pa_cons ha hr hs) fun σ H Q h => tA_cons (fun {F H A env Q} g r m => ⟨F, A, env, g, r, m.imp (fun x hx F' B A' H' v a b c d => hx F' B A' H' v a b c d fun i e => by cases e) fun _ _ h => h⟩) h
/-- a slot that is handed on and comes back -/
theorem ja_io {e : Expr} {es : List Expr} {fa : FA} {sl : List (Option Nat)} {i : Nat} (ha : PE X e (tVar i)) (hr : JA X W es sl fa) (hs : starEach (e :: es) X.env = (false, eval e X.env) :: starEach es X.env := by rfl) : JA X W (e :: es) (some i :: sl) (fA1 (fM i) fa) :=
  PA.imp (pa_cons ha hr hs) fun σ H Q h => tA_cons (te := tVar i) (fun {F H A env Q} g r m => by
    unfold fM at m
    split at m
    · rename_i o ho
      obtain ⟨v, B, A', e1, ro, r', pm⟩ := r.take ho
      exact ⟨v, e1, m F B A' H v (Step.refl.less fun a ha => pm.mem_iff.mpr ha) (g.perm pm) r' ro fun j ej => by cases ej; exact e1⟩
    · exact m.elim) h

/-! ### displays -/
def vls : List OV → Res (List PV)
  | [] => .ok []
  | o :: l => (vl o).bind fun p => (vls l).bind fun ps => .ok (p :: ps)
theorem vl_of {mg : Gm} {F H : Hp} {o : OV} {v : V} {B : List Addr} {β : Type} {k : PV → Res β} {P : β → Prop} {E : Str → List (Str × PV) → Prop} (h : Run ((vl o).bind k) P E) (r : RepO mg F H o v B) : ∃ p, o = .val p ∧ Rep mg F p v ∧ B = [] ∧ Run (k p) P E := by
  cases o with
  | val p => exact ⟨p, rfl, r.2, r.1, h⟩
  | _ => exact h.elim
theorem vls_of {mg : Gm} {F H : Hp} : ∀ {os : List OV} {vs : List V} {B : List Addr} {β : Type} {k : List PV → Res β} {P : β → Prop} {E : Str → List (Str × PV) → Prop}, Run ((vls os).bind k) P E → RepOs mg F H os vs B → ∃ ps, Reps mg F ps vs ∧ B = [] ∧ Run (k ps) P E
  | [], _, _, _, _, _, _, h, r => ⟨[], r.1, r.2, h⟩
  | o :: l, _, _, _, k, P, E, h, r => by
    obtain ⟨v, vs', A1, A2, rfl, rfl, r1, r2⟩ := r
    have h' : Run ((vl o).bind fun p => (vls l).bind fun ps => k (p :: ps)) P E := by
      unfold vls at h
      cases q : vl o with
      | ok p =>
        rw [q] at h
        show Run ((vls l).bind fun ps => k (p :: ps)) P E
        cases q2 : vls l with
        | ok ps => rw [q2] at h; exact h
        | exc c fs => rw [q2] at h; exact h
        | stuck => rw [q2] at h; exact h
      | exc c fs => rw [q] at h; exact h
      | stuck => rw [q] at h; exact h
    obtain ⟨p, _, rp, e1, h2⟩ := vl_of h' r1
    obtain ⟨ps, rps, e2, h3⟩ := vls_of h2 r2
    exact ⟨p :: ps, ⟨v, vs', rfl, rp, rps⟩, by rw [e1, e2]; rfl, h3⟩
def fTup (fa : FA) : FE := fun env => (fa env).bind fun x => (vls x.1).bind fun ps => .ok (.val (.tup ps), x.2)
def fLst (fa : FA) : FE := fun env => (fa env).bind fun x => .ok (.lst x.1, x.2)
theorem je_tup {es : List Expr} {x1} {pos : Pos} {sl : List (Option Nat)} {fa : FA} (h : JA X W es sl fa) (hl : sl.length ≤ 1000 := by decide) : JE X W (.Tuple es x1 pos) (fTup fa) := (pe_tup h).imp fun σ H Q h => by
  obtain ⟨F, A, env, gd, re, m⟩ := h
  refine ⟨F, A, env, gd, re, (Run.bind m).imp (fun x hx F1 B1 A1 H1 vs s1 g1 r1 o1 ho => ?_) fun _ _ h => h⟩
  obtain ⟨ps, rps, rfl, h2⟩ := vls_of hx o1
  refine ⟨Nat.le_of_lt (small1000 (by rw [ho.len]; exact hl)), fun p hp => ?_⟩
  have h3 : PostO X.gm F1 H1 Q (.val (.tup ps)) := post_op (σ := σ) (mg := X.gm) h2 s1 g1 r1
  exact h3.tup (good_nil g1) hp rps
theorem je_lst {es : List Expr} {pos : Pos} {sl : List (Option Nat)} {fa : FA} (h : JA X W es sl fa) (hl : sl.length ≤ 1000 := by decide) : JE X W (.List es pos) (fLst fa) := (pe_lst h).imp fun σ H Q h => by
  obtain ⟨F, A, env, gd, re, m⟩ := h
  refine ⟨F, A, env, gd, re, (Run.bind m).imp (fun x hx F1 B1 A1 H1 vs s1 g1 r1 o1 ho => ?_) fun _ _ h => h⟩
  refine ⟨Nat.le_of_lt (small1000 (by rw [ho.len]; exact hl)), fun p hp => ?_⟩
  obtain ⟨s2, g2⟩ := new_step (o := .lst vs) (good_nil g1) hp
  obtain ⟨q1, q2, q3⟩ := s2.aside g1 g2
  have h2 : PostE X.gm F A H σ Q (.lst x.1, x.2) := hx
  refine h2 F1 (p :: B1) A1 _ _ (s1.trans q2) q1 (r1.up (fun _ _ z => z) fun a ha => q3 a (List.mem_append_right _ ha)) ⟨p, vs, B1, rfl, upd_same, rfl, o1.up (fun _ _ z => z) fun a ha => q3 a (List.mem_append_left _ ha)⟩
end

/-! ### statements -/
def NoS (W : WX) : Prop := ∀ c d σ σ' H, W c d σ H → W c d σ' H
def fNx : FS := fun env => .ok (.nx, env)
def fSeq (f1 f2 : FS) : FS := fun env => (f1 env).bind fun x => match x.1 with
  | .nx => f2 x.2
  | fl => .ok (fl, x.2)
def fIfS (t : FT) (f1 f2 : FS) : FS := fun env => (t env).bind fun x => if x.1 = true then f1 x.2 else f2 x.2
def fExpr (f : FE) : FS := fun env => (f env).bind fun x => .ok (.nx, x.2)
def fRet (f : FE) : FS := fun env => (f env).bind fun x => .ok (.rt x.1, x.2)
def fRetN : FS := fun env => .ok (.rt (.val .non), env)
def fSet (i : Nat) (f : FE) : FS := fun env => (f env).bind fun x => .ok (.nx, x.2.set i (some x.1))
def fBk : FS := fun env => .ok (.bk, env)
def fCt : FS := fun env => .ok (.ct, env)
section
variable {mg : Gm} {W : WX} {F H F1 H1 : Hp} {A A1 : List Addr} {σ σ1 : L2.St} {ts : List Nat} {D : Ends}
theorem PostX.noS {c : Str} {fs : List (Str × PV)} (n : NoS W) (h : PostX mg W F A H σ c fs) : PostX mg W F A H σ1 c fs := fun F' H' C d s g e x => n _ _ _ _ _ (h F' H' C d s g e x)
theorem PostS.step {x : Flow × Env} (h : PostS mg F A H σ ts D x) (s : Step F A H F1 A1 H1) (b : But ts σ σ1) : PostS mg F1 A1 H1 σ1 ts D x := by
  obtain ⟨fl, env⟩ := x
  cases fl with
  | nx => exact fun F' A' H' σ' s' g r b' => h F' A' H' σ' (s.trans s') g r (b.trans b')
  | bk => exact fun F' A' H' σ' s' g r b' => h F' A' H' σ' (s.trans s') g r (b.trans b')
  | ct => exact fun F' A' H' σ' s' g r b' => h F' A' H' σ' (s.trans s') g r (b.trans b')
  | rt o => exact fun F' B A' H' σ' v s' g r b' => h F' B A' H' σ' v (s.trans s') g r (b.trans b')
end
section
variable {X : Cx} {W : WX} {ts : List Nat} {pos : Pos}
theorem jss_nil : JSs X W ts [] fNx := PSs.imp pss_nil fun D σ H ⟨F, A, env, g, re, m⟩ => m F A H σ Step.refl g re But.refl
theorem tS_seq {mg : Gm} {f1 f2 : FS} (n : NoS W) {D : Ends} {σ : L2.St} {H : Hp} (h : tS mg W ts (fSeq f1 f2) D σ H) : tSeq (tS mg W ts f1) (tS mg W ts f2) D σ H := by
  obtain ⟨F, A, env, gd, re, m⟩ := h
  refine ⟨F, A, env, gd, re, (Run.bind m).imp (fun x hx => ?_) fun _ _ h => h⟩
  obtain ⟨fl, env1⟩ := x
  cases fl with
  | nx => exact fun F1 A1 H1 σ1 s1 g1 r1 b1 => ⟨F1, A1, env1, g1, r1, Run.imp hx (fun y hy => PostS.step hy s1 b1) fun c fs hq => (PostX.step hq s1 fun _ z => z).noS n⟩
  | bk => exact hx
  | ct => exact hx
  | rt o => exact hx
theorem jss_cons {s : Stmt} {r : List Stmt} {f1 f2 : FS} (n : NoS W) (h1 : JS X W ts s f1) (h2 : JSs X W ts r f2) : JSs X W ts (s :: r) (fSeq f1 f2) := PSs.imp (pss_cons h1 h2) fun D σ H h => tS_seq n h
theorem jss_one {s : Stmt} {f : FS} (h : JS X W ts s f) : JSs X W ts [s] f := pss_one h
theorem js_pass : JS X W ts (.Pass pos) fNx := PS.imp ps_pass fun D σ H ⟨F, A, env, g, re, m⟩ => m F A H σ Step.refl g re But.refl
theorem js_bk : JS X W ts (.Break pos) fBk := PS.imp ps_break fun D σ H ⟨F, A, env, g, re, m⟩ => m F A H σ Step.refl g re But.refl
theorem js_ct : JS X W ts (.Continue pos) fCt := PS.imp ps_continue fun D σ H ⟨F, A, env, g, re, m⟩ => m F A H σ Step.refl g re But.refl
theorem js_if {c : Expr} {a b : List Stmt} {t : FT} {f1 f2 : FS} (hc : JT X W c t) (ha : JSs X W ts a f1) (hb : JSs X W ts b f2) : JS X W ts (.If c a b pos) (fIfS t f1 f2) := PS.imp (ps_if hc ha hb) fun D σ H h => by
  obtain ⟨F, A, env, gd, re, m⟩ := h
  refine ⟨F, A, env, gd, re, (Run.bind m).imp (fun x hx F1 A1 H1 s1 g1 r1 => ?_) fun _ _ h => h⟩
  cases hb : x.1 with
  | true =>
    rw [if_pos hb] at hx
    rw [if_pos rfl]
    exact ⟨F1, A1, x.2, g1, r1, hx.imp (fun y hy => PostS.step hy s1 But.refl) fun c fs hq => PostX.step hq s1 fun _ z => z⟩
  | false =>
    rw [hb, if_neg Bool.false_ne_true] at hx
    rw [if_neg Bool.false_ne_true]
    exact ⟨F1, A1, x.2, g1, r1, hx.imp (fun y hy => PostS.step hy s1 But.refl) fun c fs hq => PostX.step hq s1 fun _ z => z⟩
theorem js_expr {e : Expr} {f : FE} (he : JE X W e f) (hs : swapsWith e none pos.line X.env = pure false := by rfl) : JS X W ts (.Expr e pos) (fExpr f) := PS.imp (ps_expr he hs) fun D σ H h => by
  obtain ⟨F, A, env, gd, re, m⟩ := h
  exact ⟨F, A, env, gd, re, (Run.bind m).imp (fun x hx F1 B1 A1 H1 v s1 g1 r1 o1 => hx F1 A1 H1 σ (s1.less fun a ha => List.mem_append_right _ ha) g1.right r1 But.refl) fun _ _ h => h⟩
theorem js_doc {x j pos'} : JS X W ts (.Expr (.Constant (.str x) j pos) pos') fNx := PS.imp ps_doc fun D σ H ⟨F, A, env, g, re, m⟩ => m F A H σ Step.refl g re But.refl
theorem js_ret {e : Expr} {f : FE} (he : JE X W e f) : JS X W ts (.Return (some e) pos) (fRet f) := PS.imp (ps_ret he) fun D σ H h => by
  obtain ⟨F, A, env, gd, re, m⟩ := h
  exact ⟨F, A, env, gd, re, (Run.bind m).imp (fun x hx F1 B1 A1 H1 v s1 g1 r1 o1 => hx F1 B1 A1 H1 σ v s1 g1 r1 But.refl o1) fun _ _ h => h⟩
theorem js_retN : JS X W ts (.Return none pos) fRetN := PS.imp ps_retN fun D σ H ⟨F, A, env, g, re, m⟩ => m F [] A H σ .non Step.refl g re But.refl ⟨rfl, rfl⟩
/-- a slot is stored -/
theorem REnv.put {mg : Gm} {F H : Hp} {env : Env} {σ : L2.St} {A B : List Addr} {i : Nat} {o : OV} {v : V} (r : REnv mg F H env σ A) (g : Good F (B ++ A) H) (ro : RepO mg F H o v B) :
    ∃ A', REnv mg F H (env.set i (some o)) (σ.set i (some v)) A' ∧ Good F A' H ∧ ∀ a ∈ A', a ∈ B ++ A := by
  obtain ⟨A1, r1, sb⟩ := r.drop i
  by_cases hi : i < env.length
  · obtain ⟨A2, r2, pm⟩ := r1.fill (i := i) (o := o) (v := v) (by rw [List.getElem?_set_self hi]) ro
    rw [List.set_set] at r2
    refine ⟨A2, r2, (g.sl (List.Sublist.append (List.Sublist.refl _) sb)).perm pm.symm, fun a ha => ?_⟩
    rcases List.mem_append.mp (pm.mem_iff.mp ha) with z | z
    · exact List.mem_append_left _ z
    · exact List.mem_append_right _ (sb.mem z)
  · have e1 : env.set i (some o) = env := List.set_eq_of_length_le (by omega)
    have e2 : σ.set i (some v) = σ := List.set_eq_of_length_le (by rw [r.len]; omega)
    rw [e1, e2]
    exact ⟨A, r, g.right, fun a ha => List.mem_append_right _ ha⟩
theorem js_set {i : Nat} {x : Str} {e : Expr} {f : FE} {pos' : Pos} (hN : X.N.Nodup) (hi : X.N[i]? = some x) (hx : Loc X.env.scope x) (he : JE X W e f) (ht : i ∈ ts := by decide) (hs : swapsWith e (some (.Name x pos')) pos.line X.env = pure false := by rfl) (hf : X.fn x = true ∨ X.env.scope.names.lookup x = some .local := by first | exact .inl rfl | exact .inr rfl | assumption) :
    JS X W ts (.Assign [.Name x pos'] e pos) (fSet i f) := PS.imp (ps_set hN hi hx he hs hf) fun D σ H h => by
  obtain ⟨F, A, env, gd, re, m⟩ := h
  refine ⟨F, A, env, gd, re, (Run.bind m).imp (fun x hx F1 B1 A1 H1 v s1 g1 r1 o1 => ?_) fun _ _ h => h⟩
  obtain ⟨A2, r2, g2, sb⟩ := r1.put (i := i) g1 o1
  exact hx F1 A2 H1 _ (s1.less sb) g2 r2 (But.set ht)
/-- x op= e, x an int (a text ..) -/
def fAug (i : Nat) (g : PV → PV → Res OV) (f : FE) : FS := fun env => match env[i]? with
  | some (some (.val p)) => (f env).bind fun x => (vl x.1).bind fun q => (g p q).bind fun o => .ok (.nx, x.2.set i (some o))
  | _ => .stuck
theorem js_aug {i : Nat} {x : Str} {e : Expr} {op : Operator} {ti : TIp} {g : PV → PV → Res OV} {f : FE} {pos' : Pos} (hN : X.N.Nodup) (hi : X.N[i]? = some x) (hx : Loc X.env.scope x) (hop : PIp X op ti) (ho : Op2 X.gm ti g) (hc : Calm2 g) (he : JE X W e f) (ht : i ∈ ts := by decide)
    (hf : X.fn x = true ∨ X.env.scope.names.lookup x = some .local := by first | exact .inl rfl | exact .inr rfl | assumption) :
    JS X W ts (.AugAssign (.Name x pos') op e pos) (fAug i g f) := PS.imp (ps_aug hN hi hx he hop hf) fun D σ H h => by
  obtain ⟨F, A, env, gd, re, m⟩ := h
  unfold fAug at m
  split at m
  · rename_i p hp
    obtain ⟨v, B, A', e1, ro, r', pm⟩ := re.take hp
    refine ⟨v, e1, F, A, env, gd, re, (Run.bind m).imp (fun x hx F1 B1 A1 H1 u s1 g1 r1 o1 => ?_) fun _ _ h => h⟩
    obtain ⟨q, _, rq, rfl, h2⟩ := vl_of hx o1
    refine ho F1 H1 v u p q _ (good_nil g1) (ro.2.up s1.ext) rq ((run_no (Run.bind h2) (hc p q)).imp (fun o z F2 B2 H2 w s2 g2 ow => ?_) fun _ _ h => h)
    obtain ⟨q1, q2, q3⟩ := s2.aside g1 g2
    obtain ⟨A3, r3, g3, sb⟩ := (r1.up s2.ext q3).put (i := i) q1 ow
    exact z F2 A3 H2 _ (s1.trans (q2.less sb)) g3 r3 (But.set ht)
  · exact m.elim
end
end Ev

/-! # Ev 5: targets, loops, comprehensions -/
namespace Ev
open PySem L2

/-! ### targets -/
def fGn (i : Nat) : FG := fun o env => some (env.set i (some o))
def fGs0 : List PV → Env → Option Env := fun ps env => match ps with
  | [] => some env
  | _ => none
def fGs1 (g : FG) (gs : List PV → Env → Option Env) : List PV → Env → Option Env := fun ps env => match ps with
  | p :: r => (g (.val p) env).bind fun env1 => gs r env1
  | [] => none
def fGt (n : Nat) (gs : List PV → Env → Option Env) : FG := fun o env => match o with
  | .val (.tup ps) => if ps.length = n then gs ps env else none
  | _ => none
section
variable {X : Cx} {ts : List Nat} {pos : Pos}
theorem Reps.len {mg : Gm} {F : Hp} : ∀ {ps : List PV} {vs : List V}, Reps mg F ps vs → vs.length = ps.length
  | [], _, h => by
    rw [show _ = [] from h]
    all_goals rfl
  | p :: l, _, h => by
    obtain ⟨v, vs', rfl, _, h2⟩ := h
    rw [List.length_cons, List.length_cons, Reps.len h2]
def tGs (mg : Gm) (ts : List Nat) (gs : List PV → Env → Option Env) : TGs := fun vs σ H Q => ∃ F A env ps, Good F A H ∧ REnv mg F H env σ A ∧ Reps mg F ps vs ∧ Has (gs ps env) (PostG mg F A H σ ts Q)
abbrev JGs (X : Cx) (ts : List Nat) (es : List Expr) (gs : List PV → Env → Option Env) : Prop := PGs X es (tGs X.gm ts gs)
theorem PG.imp {e : Expr} {t t' : TG} (h : PG X e t) (k : ∀ v σ H Q, t' v σ H Q → t v σ H Q) : PG X e t' := ⟨fun pins s σ H v u Q I r w => h.run pins s σ H v u Q I r (k _ _ _ _ w)⟩
theorem PGs.imp {es : List Expr} {t t' : TGs} (h : PGs X es t) (k : ∀ v σ H Q, t' v σ H Q → t v σ H Q) : PGs X es t' := ⟨fun pins s σ H vs us Q I r w => h.run pins s σ H vs us Q I r (k _ _ _ _ w)⟩
theorem jg_n {i : Nat} {x : Str} (hN : X.N.Nodup) (hi : X.N[i]? = some x) (hx : Loc X.env.scope x) (ht : i ∈ ts := by decide) (hf : X.fn x = true ∨ X.env.scope.names.lookup x = some .local := by first | exact .inl rfl | exact .inr rfl | assumption) : JG X ts (.Name x pos) (fGn i) :=
  PG.imp (pg_name hN hi hx hf) fun v σ H Q ⟨F, A, B, env, o, g, re, ro, m⟩ => by
    obtain ⟨A2, r2, g2, sb⟩ := re.put (i := i) g ro
    exact m F A2 H _ (Step.refl.less sb) g2 r2 (But.set ht)
theorem jgs_0 : JGs X ts [] fGs0 := PGs.imp pgs_nil fun v σ H Q ⟨F, A, env, ps, g, re, r, m⟩ => by
  cases ps with
  | nil => exact ⟨r, m F A H σ Step.refl g re But.refl⟩
  | cons p l => exact m.elim
theorem jgs_1 {e : Expr} {es : List Expr} {g : FG} {gs : List PV → Env → Option Env} (h1 : JG X ts e g) (h2 : JGs X ts es gs) (hs : (assignEach (e :: es) X.env).map (·.2) = assign e X.env :: (assignEach es X.env).map (·.2) := by rfl) : JGs X ts (e :: es) (fGs1 g gs) := PGs.imp (pgs_cons h1 h2 hs) fun v σ H Q ⟨F, A, env, ps, gd, re, r, m⟩ => by
  cases ps with
  | nil => exact m.elim
  | cons p l =>
    obtain ⟨v', vs', rfl, rp, rps⟩ := r
    refine ⟨v', vs', rfl, F, A, [], env, .val p, gd, re, ⟨rfl, rp⟩, ?_⟩
    have m' : Has ((g (.val p) env).bind fun env1 => gs l env1) (PostG X.gm F A H σ ts Q) := m
    cases q : g (.val p) env with
    | none => rw [q] at m'; exact m'.elim
    | some env1 =>
      rw [q] at m'
      exact fun F1 A1 H1 σ1 s1 g1 r1 b1 => ⟨F1, A1, env1, l, g1, r1, rps.up s1.ext, Has.imp (r := gs l env1) m' fun env2 z F2 A2 H2 σ2 s2 g2 r2 b2 => z F2 A2 H2 σ2 (s1.trans s2) g2 r2 (b1.trans b2)⟩
theorem jg_t {es : List Expr} {k : Nat} {n : Nat} {gs : List PV → Env → Option Env} (hc : X.calm = true) (h : JGs X ts es gs) (hn : (assignEach es X.env).length = n := by rfl) (hst : (assignEach es X.env).findIdx? (·.1) = none := by rfl) : JG X ts (.Tuple es k pos) (fGt n gs) :=
  PG.imp (pg_tup hc h hn hst) fun v σ H Q ⟨F, A, B, env, o, g, re, ro, m⟩ => by
    cases o with
    | val p =>
      cases p with
      | tup ps =>
        obtain ⟨rfl, a, vs, rfl, ha, rps⟩ := ro
        have m' : Has (if ps.length = n then gs ps env else none) (PostG X.gm F A H σ ts Q) := m
        by_cases hl : ps.length = n
        · rw [if_pos hl] at m'
          exact ⟨a, vs, rfl, SqT.of (g.sub a _ ha), rps.len.trans hl, F, A, env, ps, g, re, rps, m'⟩
        · rw [if_neg hl] at m'; exact m'.elim
      | _ => exact m.elim
    | _ => exact m.elim
/-- target = e -/
def fAsg (g : FG) (f : FE) : FS := fun env => (f env).bind fun x => (ofO (g x.1 x.2)).bind fun env1 => .ok (.nx, env1)
theorem js_asg {W : WX} {tg e : Expr} {f : FE} {g : FG} (he : JE X W e f) (hg : JG X ts tg g) (hs : swapsWithSole [tg] e pos.line X.env = pure false := by rfl) (hw : swappedStores [tg] e X.env = pure none := by rfl) (h1 : (assignEach [tg] X.env).map (·.2) = [assign tg X.env] := by rfl) : JS X W ts (.Assign [tg] e pos) (fAsg g f) := PS.imp (ps_asg he hg hs hw h1) fun D σ H h => by
  obtain ⟨F, A, env, gd, re, m⟩ := h
  refine ⟨F, A, env, gd, re, (Run.bind m).imp (fun x hx F1 B1 A1 H1 v s1 g1 r1 o1 => ?_) fun _ _ h => h⟩
  refine ⟨F1, A1, B1, x.2, x.1, g1, r1, o1, (Run.ofO hx).imp fun env2 z F2 A2 H2 σ2 s2 g2 r2 b2 => ?_⟩
  exact z F2 A2 H2 σ2 (s1.trans s2) g2 r2 b2
end

/-! ### what is walked -/
section
variable {X : Cx} {W : WX} {tg : Expr}
def its : OV → Res (List PV)
  | .val (.lst ps) => .ok ps
  | .val (.tup ps) => .ok ps
  | _ => .stuck
def fIt (f : FE) : FI := fun env => (f env).bind fun x => (its x.1).bind fun ps => .ok (ps, x.2)
def iSeq (K : PySem.W.Frag) (tl : TE) : TI := fun σ H R => tl σ H fun x H1 => ∃ a, x = .ref a ∧ (((∃ xs, SqL K H1 a xs) ∧ R (Itl K a) H1) ∨ ((∃ xs, SqT K H1 a xs) ∧ R (Itt K a) H1))
theorem pi_seq {l : Expr} {tl : TE} (hl : PE X l tl) : PI X tg l (iSeq X.K tl) := by
  refine ⟨fun pins s σ H R I h => ?_⟩
  refine thn (hl.run pins s σ H _ I h) fun v s1 ⟨x, H1, I1, r1, q1⟩ => ?_
  obtain ⟨a, e, q1⟩ := q1
  subst e
  cases r1
  rcases q1 with ⟨⟨xs, hq⟩, q⟩ | ⟨⟨xs, hq⟩, q⟩
  · obtain ⟨its, rv, p, hz⟩ := I1.list hq
    refine wpAny_pyIter_list p.isList ?_
    refine ⟨s1.heap.objs.size, [s1.heap.objs.size], _, _, H1, rfl, I1.kept (t' := s1.toks) fun b o e => Heap.get?_push_of_some _ e, turn_list a _, ⟨_, Heap.get?_push_size _ rfl, rfl, rfl⟩, fun b hb => ?_, q⟩
    have e : b = s1.heap.objs.size := by simpa using hb
    subst e
    exact I1.fpOk (Nat.le_refl _) (I1.hok.fresh (Nat.le_refl _))
  · obtain ⟨its, rv, p, hz⟩ := I1.tuple hq
    refine wpAny_pyIter_tuple (show s1.heap.IsTuple a its.toArray from p) ?_
    refine ⟨s1.heap.objs.size, [s1.heap.objs.size], _, _, H1, rfl, I1.kept (t' := s1.toks) fun b o e => Heap.get?_push_of_some _ e, turn_tuple a _, ⟨_, Heap.get?_push_size _ rfl, rfl, rfl⟩, fun b hb => ?_, q⟩
    have e : b = s1.heap.objs.size := by simpa using hb
    subst e
    exact I1.fpOk (Nat.le_refl _) (I1.hok.fresh (Nat.le_refl _))
theorem Reps.at {mg : Gm} {F : Hp} : ∀ {ps : List PV} {vs : List V} {i : Nat} {x : V}, Reps mg F ps vs → vs[i]? = some x → ∃ p, ps[i]? = some p ∧ Rep mg F p x
  | [], _, i, _, h, e => by
    rw [show _ = [] from h] at e
    simp at e
  | p :: l, _, 0, x, h, e => by
    obtain ⟨v, vs', rfl, h1, h2⟩ := h
    have e' : v = x := by simpa using e
    subst e'
    exact ⟨p, rfl, h1⟩
  | p :: l, _, i + 1, x, h, e => by
    obtain ⟨v, vs', rfl, h1, h2⟩ := h
    obtain ⟨q, q1, q2⟩ := Reps.at h2 (i := i) (x := x) (by simpa using e)
    exact ⟨q, by simpa using q1, q2⟩
theorem SqL.rd {K : PySem.W.Frag} {F H : Hp} {a : Addr} {vs : List V} (sub : ∀ a o, F a = some o → H a = some o) (h : Rd F a (.lst vs)) : SqL K H a vs := by
  rcases h with h | ⟨o, h⟩
  · exact .inl (.inl (sub _ _ h))
  · exact .inl (.inr ⟨o, sub _ _ h⟩)
theorem serves_l {K : PySem.W.Frag} {mg : Gm} {F : Hp} {a : Addr} {vs : List V} {ps : List PV} (h : F a = some (.lst vs)) (r : Reps mg F ps vs) : Serves mg F (Itl K a) ps where
  go := fun H i sub hi => ⟨vs, vs[i]'(by rw [r.len]; exact hi), SqL.of (sub _ _ h), by simp⟩
  stop := fun H i sub hi => ⟨vs, SqL.of (sub _ _ h), by rw [r.len]; exact hi⟩
  yld := fun H i x H' sub hi y => ⟨y.1, r.at (y.2 vs (SqL.of (sub _ _ h)))⟩
theorem serves_t {K : PySem.W.Frag} {mg : Gm} {F : Hp} {a : Addr} {vs : List V} {ps : List PV} (h : F a = some (.tup vs)) (r : Reps mg F ps vs) : Serves mg F (Itt K a) ps where
  go := fun H i sub hi => ⟨vs, vs[i]'(by rw [r.len]; exact hi), SqT.of (sub _ _ h), by simp⟩
  stop := fun H i sub hi => ⟨vs, SqT.of (sub _ _ h), by rw [r.len]; exact hi⟩
  yld := fun H i x H' sub hi y => ⟨y.1, r.at (y.2 vs (SqT.of (sub _ _ h)))⟩
theorem ji_seq {l : Expr} {f : FE} (h : JE X W l f) : JI X W tg l (fIt f) := PI.imp (pi_seq h) fun σ H R h => by
  obtain ⟨F, A, env, gd, re, m⟩ := h
  refine ⟨F, A, env, gd, re, (Run.bind m).imp (fun x hx F1 B1 A1 H1 v s1 g1 r1 o1 => ?_) fun _ _ h => h⟩
  obtain ⟨o, env1⟩ := x
  cases o with
  | val p =>
    cases p with
    | lst ps =>
      obtain ⟨rfl, a, vs, rfl, h1, h2⟩ := o1
      exact ⟨a, rfl, .inl ⟨⟨vs, SqL.of (g1.sub _ _ h1)⟩, hx F1 A1 H1 _ s1 g1 r1 (serves_l h1 h2)⟩⟩
    | tup ps =>
      obtain ⟨rfl, a, vs, rfl, h1, h2⟩ := o1
      exact ⟨a, rfl, .inr ⟨⟨vs, SqT.of (g1.sub _ _ h1)⟩, hx F1 A1 H1 _ s1 g1 r1 (serves_t h1 h2)⟩⟩
    | _ => exact hx.elim
  | _ => exact hx.elim
/-! range(n), range(a, b) -/
def rng (a b : Int) : List PV := (List.range (b - a).toNat).map fun (i : Nat) => PV.int (a + (i : Int))
def small (i : Int) : Bool := decide (-1000000000 ≤ i) && decide (i ≤ 1000000000)
def fR1 (fa : FA) : FI := fun env => (fa env).bind fun x => match x.1 with
  | [.val (.int b)] => if small b = true then .ok (rng 0 b, x.2) else .stuck
  | _ => .stuck
def fR2 (fa : FA) : FI := fun env => (fa env).bind fun x => match x.1 with
  | [.val (.int a), .val (.int b)] => if small a = true ∧ small b = true then .ok (rng a b, x.2) else .stuck
  | _ => .stuck
theorem rng_len (a b : Int) : (rng a b).length = (b - a).toNat := by unfold rng; rw [List.length_map, List.length_range]
theorem rng_at {a b : Int} {i : Nat} (h : i < (b - a).toNat) : (rng a b)[i]? = some (.int (a + (i : Int))) := by
  unfold rng
  rw [List.getElem?_map, List.getElem?_range h]
  all_goals rfl
theorem serves_r {mg : Gm} {F : Hp} {a b : Int} : Serves mg F (Itr a (b - a).toNat) (rng a b) where
  go := fun H i _ hi => by rw [rng_len] at hi; exact hi
  stop := fun H i _ hi => by rw [rng_len] at hi; exact hi
  yld := fun H i x H' _ hi y => ⟨y.1, _, rng_at (by rw [rng_len] at hi; exact hi), y.2⟩
theorem small_of {i : Int} (h : small i = true) : -(2 ^ 62) ≤ i ∧ i < 2 ^ 62 := by
  unfold small at h
  simp only [Bool.and_eq_true, decide_eq_true_eq] at h
  omega
theorem ji_r1 {a : Expr} {fa : FA} {p pos : Pos} {sl : List (Option Nat)} (hg : Gl X "range") (hm : X.mg "range" = none) (ha : JA X W [a] sl fa) (hs : starEach [a] X.env = [(false, eval a X.env)] := by rfl) : JI X W tg (.Call (.Name "range" p) [a] [] pos) (fR1 fa) := PI.imp (pi_range1 hg hm ha hs) fun σ H R h => by
  obtain ⟨F, A, env, gd, re, m⟩ := h
  refine ⟨F, A, env, gd, re, (Run.bind m).imp (fun x hx F1 B1 A1 H1 vs s1 g1 r1 o1 _ => ?_) fun _ _ h => h⟩
  obtain ⟨os, env1⟩ := x
  dsimp only at hx
  split at hx
  · rename_i b
    obtain ⟨v, vs', A1', A2', rfl, rfl, ⟨rfl, rfl⟩, rfl, rfl⟩ := o1
    split at hx
    · rename_i hs
      obtain ⟨h1, h2⟩ := small_of hs
      refine ⟨b, rfl, h1, h2, ?_⟩
      have z := hx F1 A1 H1 (Itr 0 (b - 0).toNat) s1 g1 r1 serves_r
      rw [Int.sub_zero] at z
      exact z
    · exact hx.elim
  · exact hx.elim
theorem ji_r2 {a b : Expr} {fa : FA} {p pos : Pos} {sl : List (Option Nat)} (hg : Gl X "range") (hm : X.mg "range" = none) (ha : JA X W [a, b] sl fa) (hs : starEach [a, b] X.env = [(false, eval a X.env), (false, eval b X.env)] := by rfl) (hs2 : starEach [b] X.env = [(false, eval b X.env)] := by rfl) : JI X W tg (.Call (.Name "range" p) [a, b] [] pos) (fR2 fa) := PI.imp (pi_range2 hg hm ha hs hs2) fun σ H R h => by
  obtain ⟨F, A, env, gd, re, m⟩ := h
  refine ⟨F, A, env, gd, re, (Run.bind m).imp (fun x hx F1 B1 A1 H1 vs s1 g1 r1 o1 _ => ?_) fun _ _ h => h⟩
  obtain ⟨os, env1⟩ := x
  dsimp only at hx
  split at hx
  · rename_i a b
    obtain ⟨v, vs', A1', A2', rfl, rfl, ⟨rfl, rfl⟩, v2, vs2, A3', A4', rfl, rfl, ⟨rfl, rfl⟩, rfl, rfl⟩ := o1
    split at hx
    · rename_i hs
      obtain ⟨h1, h2⟩ := small_of hs.1
      obtain ⟨h3, h4⟩ := small_of hs.2
      exact ⟨a, b, rfl, ⟨h1, h2, h3, h4⟩, hx F1 A1 H1 _ s1 g1 r1 serves_r⟩
    · exact hx.elim
  · exact hx.elim
end

/-! ### for, while -/
def fLoop (bind : FG) (body : FS) : List PV → FS
  | [], env => .ok (.nx, env)
  | p :: r, env => (ofO (bind (.val p) env)).bind fun env1 => (body env1).bind fun x => match x.1 with
    | .nx => fLoop bind body r x.2
    | .ct => fLoop bind body r x.2
    | .bk => .ok (.nx, x.2)
    | .rt o => .ok (.rt o, x.2)
def fFor (fi : FI) (bind : FG) (body : FS) : FS := fun env => (fi env).bind fun x => fLoop bind body x.1 x.2
def fWhile (t : FT) (body : FS) : Nat → FS
  | 0, _ => .stuck
  | n + 1, env => (t env).bind fun b => if b.1 = true then (body b.2).bind fun x => match x.1 with
      | .nx => fWhile t body n x.2
      | .ct => fWhile t body n x.2
      | .bk => .ok (.nx, x.2)
      | .rt o => .ok (.rt o, x.2)
    else .ok (.nx, b.2)
section
variable {X : Cx} {W : WX} {ts : List Nat} {pos : Pos}
theorem for_core {mg : Gm} {g : FG} {fb : FS} (n : NoS W) {D : Ends} {σ : L2.St} {F1 H1 : Hp} {A1 : List Addr} {env1 : Env} {ps : List PV} {J : It} (g1 : Good F1 A1 H1) (r1 : REnv mg F1 H1 env1 σ A1) (sv : Serves mg F1 J ps)
    (hx : Run (fLoop g fb ps env1) (PostS mg F1 A1 H1 σ ts D) (PostX mg W F1 A1 H1 σ)) :
    ∃ Wt : Nat → Nat → L2.St → Hp → Prop, (∃ m, Wt 0 m σ H1) ∧ ∀ i m σ H, Wt i m σ H →
      (J.stop i H ∧ D.nx σ H) ∨ (J.go i H ∧ ∃ N : L2.St → Hp → Prop, (∀ σ' H', N σ' H' → ∃ m', m' < m ∧ Wt (i + 1) m' σ' H') ∧ ∀ x H', J.yld i H x H' → tG mg ts g x σ H' fun σ2 H2 => tS mg W ts fb { D with nx := N, ct := N, bk := D.nx } σ2 H2) := by
  refine ⟨fun i k σ2 H2 => k = ps.length - i ∧ i ≤ ps.length ∧ ∃ F2 A2 env2, (∀ a o, F1 a = some o → F2 a = some o) ∧ Good F2 A2 H2 ∧ REnv mg F2 H2 env2 σ2 A2 ∧
    Run (fLoop g fb (ps.drop i) env2) (PostS mg F2 A2 H2 σ2 ts D) (PostX mg W F2 A2 H2 σ2), ⟨ps.length, rfl, Nat.zero_le _, F1, A1, env1, fun _ _ z => z, g1, r1, ?_⟩, ?_⟩
  · rw [List.drop_zero]
    exact hx
  · rintro i k σ2 H2 ⟨rfl, hi, F2, A2, env2, ex, g2, r2, run⟩
    by_cases hlt : i < ps.length
    · refine .inr ⟨sv.go H2 i (fun a o e => g2.sub a o (ex a o e)) hlt, fun σ' H' => ∃ m', m' < ps.length - i ∧ (m' = ps.length - (i + 1) ∧ i + 1 ≤ ps.length ∧ ∃ F2 A2 env2, (∀ a o, F1 a = some o → F2 a = some o) ∧ Good F2 A2 H' ∧ REnv mg F2 H' env2 σ' A2 ∧
        Run (fLoop g fb (ps.drop (i + 1)) env2) (PostS mg F2 A2 H' σ' ts D) (PostX mg W F2 A2 H' σ')), fun σ' H' z => z, fun y H' hy => ?_⟩
      obtain ⟨rfl, p, hp, rp⟩ := sv.yld H2 i y H' (fun a o e => g2.sub a o (ex a o e)) hlt hy
      have ed : ps.drop i = p :: ps.drop (i + 1) := by
        rw [List.getElem?_eq_some_iff] at hp
        obtain ⟨h1, h2⟩ := hp
        rw [← h2]
        exact List.drop_eq_getElem_cons h1
      rw [ed] at run
      refine ⟨F2, A2, [], env2, .val p, g2, r2, ⟨rfl, rp.up ex⟩, (Run.ofO run).imp fun env3 h3 F3 A3 H3 σ3 s3 g3 r3 b3 => ?_⟩
      refine ⟨F3, A3, env3, g3, r3, (Run.bind h3).imp (fun z hz => ?_) fun c fs hq => (PostX.step hq s3 fun _ z => z).noS n⟩
      obtain ⟨fl, env4⟩ := z
      have again : ∀ F4 A4 H4 σ4, Step F3 A3 H3 F4 A4 H4 → Good F4 A4 H4 → REnv mg F4 H4 env4 σ4 A4 → But ts σ3 σ4 → Run (fLoop g fb (ps.drop (i + 1)) env4) (PostS mg F2 A2 H' σ2 ts D) (PostX mg W F2 A2 H' σ2) →
          ∃ m', m' < ps.length - i ∧ (m' = ps.length - (i + 1) ∧ i + 1 ≤ ps.length ∧ ∃ F2 A2 env2, (∀ a o, F1 a = some o → F2 a = some o) ∧ Good F2 A2 H4 ∧ REnv mg F2 H4 env2 σ4 A2 ∧
            Run (fLoop g fb (ps.drop (i + 1)) env2) (PostS mg F2 A2 H4 σ4 ts D) (PostX mg W F2 A2 H4 σ4)) := fun F4 A4 H4 σ4 s4 g4 r4 b4 hr =>
        ⟨ps.length - (i + 1), by omega, rfl, hlt, F4, A4, env4, fun a o e => s4.ext a o (s3.ext a o (ex a o e)), g4, r4, hr.imp (fun y hy => PostS.step hy (s3.trans s4) (b3.trans b4)) fun c fs hq => (PostX.step hq (s3.trans s4) fun _ z => z).noS n⟩
      cases fl with
      | nx => exact fun F4 A4 H4 σ4 s4 g4 r4 b4 => again F4 A4 H4 σ4 s4 g4 r4 b4 hz
      | ct => exact fun F4 A4 H4 σ4 s4 g4 r4 b4 => again F4 A4 H4 σ4 s4 g4 r4 b4 hz
      | bk => exact fun F4 A4 H4 σ4 s4 g4 r4 b4 => hz F4 A4 H4 σ4 (s3.trans s4) g4 r4 (b3.trans b4)
      | rt o => exact fun F4 B4 A4 H4 σ4 v s4 g4 r4 b4 => hz F4 B4 A4 H4 σ4 v (s3.trans s4) g4 r4 (b3.trans b4)
    · have e : i = ps.length := by omega
      subst e
      rw [List.drop_length] at run
      exact .inl ⟨sv.stop H2 _ (fun a o e => g2.sub a o (ex a o e)) (Nat.le_refl _), run F2 A2 H2 σ2 Step.refl g2 r2 But.refl⟩
theorem tFor_of {mg : Gm} {fi : FI} {g : FG} {fb : FS} (n : NoS W) {D : Ends} {σ : L2.St} {H : Hp} (h : tS mg W ts (fFor fi g fb) D σ H) : tFor (tI mg W fi) (tG mg ts g) (tS mg W ts fb) D σ H := by
  obtain ⟨F, A, env, gd, re, m⟩ := h
  refine ⟨F, A, env, gd, re, (Run.bind m).imp (fun x hx F1 A1 H1 J s1 g1 r1 sv => ?_) fun _ _ h => h⟩
  obtain ⟨ps, env1⟩ := x
  dsimp only at hx sv r1
  exact for_core n g1 r1 sv (hx.imp (fun y hy => PostS.step hy s1 But.refl) fun c fs hq => PostX.step hq s1 fun _ z => z)
theorem js_for {tg iter : Expr} {body : List Stmt} {fi : FI} {g : FG} {fb : FS} (n : NoS W) (hp : PassesOwn (model X.prog X.w) X.A X.env X.xe) (hc : X.calm = true) (hi : JI X W tg iter fi) (hg : JG X ts tg g) (hb : JSs X W ts body fb)
    (hs : ∀ x, foldedSetIterable iter X.env x = pure x := by intro _; rfl) : JS X W ts (.For tg iter body [] pos) (fFor fi g fb) := PS.imp (ps_for hp hc hi hg hb hs) fun D σ H h => tFor_of n h
theorem js_while {c : Expr} {body : List Stmt} {t : FT} {fb : FS} {k : Nat} (n : NoS W) (hp : PassesOwn (model X.prog X.w) X.A X.env X.xe) (hc : JT X W c t) (hb : JSs X W ts body fb) : JS X W ts (.While c body [] pos) (fWhile t fb k) := PS.imp (ps_while hp hc hb) fun D σ H h => by
  obtain ⟨F, A, env, gd, re, m⟩ := h
  refine ⟨fun k σ2 H2 => ∃ F2 A2 env2, Good F2 A2 H2 ∧ REnv X.gm F2 H2 env2 σ2 A2 ∧ Run (fWhile t fb k env2) (PostS X.gm F2 A2 H2 σ2 ts D) (PostX X.gm W F2 A2 H2 σ2), ⟨k, F, A, env, gd, re, m⟩, ?_⟩
  rintro k σ2 H2 ⟨F2, A2, env2, g2, r2, run⟩
  cases k with
  | zero => exact run.elim
  | succ k =>
    refine ⟨F2, A2, env2, g2, r2, (Run.bind run).imp (fun x hx F3 A3 H3 s3 g3 r3 => ?_) fun _ _ h => h⟩
    obtain ⟨b, env3⟩ := x
    cases b with
    | false => exact hx F3 A3 H3 σ2 s3 g3 r3 But.refl
    | true =>
      refine ⟨fun σ' H' => ∃ m', m' < k + 1 ∧ ∃ F2 A2 env2, Good F2 A2 H' ∧ REnv X.gm F2 H' env2 σ' A2 ∧ Run (fWhile t fb m' env2) (PostS X.gm F2 A2 H' σ' ts D) (PostX X.gm W F2 A2 H' σ'), fun σ' H' z => z, ?_⟩
      refine ⟨F3, A3, env3, g3, r3, (Run.bind hx).imp (fun z hz => ?_) fun c fs hq => PostX.step hq s3 fun _ z => z⟩
      obtain ⟨fl, env4⟩ := z
      have again : ∀ F4 A4 H4 σ4, Step F3 A3 H3 F4 A4 H4 → Good F4 A4 H4 → REnv X.gm F4 H4 env4 σ4 A4 → But ts σ2 σ4 → Run (fWhile t fb k env4) (PostS X.gm F2 A2 H2 σ2 ts D) (PostX X.gm W F2 A2 H2 σ2) →
          ∃ m', m' < k + 1 ∧ ∃ F2 A2 env2, Good F2 A2 H4 ∧ REnv X.gm F2 H4 env2 σ4 A2 ∧ Run (fWhile t fb m' env2) (PostS X.gm F2 A2 H4 σ4 ts D) (PostX X.gm W F2 A2 H4 σ4) := fun F4 A4 H4 σ4 s4 g4 r4 b4 hr =>
        ⟨k, Nat.lt_succ_self _, F4, A4, env4, g4, r4, hr.imp (fun y hy => PostS.step hy (s3.trans s4) b4) fun c fs hq => (PostX.step hq (s3.trans s4) fun _ z => z).noS n⟩
      cases fl with
      | nx => exact fun F4 A4 H4 σ4 s4 g4 r4 b4 => again F4 A4 H4 σ4 s4 g4 r4 b4 hz
      | ct => exact fun F4 A4 H4 σ4 s4 g4 r4 b4 => again F4 A4 H4 σ4 s4 g4 r4 b4 hz
      | bk => exact fun F4 A4 H4 σ4 s4 g4 r4 b4 => hz F4 A4 H4 σ4 (s3.trans s4) g4 r4 b4
      | rt o => exact fun F4 B4 A4 H4 σ4 v s4 g4 r4 b4 => hz F4 B4 A4 H4 σ4 v (s3.trans s4) g4 r4 b4
end
end Ev

/-! # Ev 6: comprehensions -/
namespace Ev
open PySem L2

def noX {α : Type} (r : Res α) : Res α := match r with
  | .ok a => .ok a
  | _ => .stuck
theorem Run.noX {α β : Type} {r : Res α} {f : α → Res β} {P : β → Prop} {E E' : Str → List (Str × PV) → Prop} (h : Run ((Ev.noX r).bind f) P E) : Run r (fun a => Run (f a) P E) E' := by
  cases r with
  | ok a => exact h
  | exc c fs => exact h.elim
  | stuck => exact h.elim
def W0 : WX := fun _ _ _ _ => False
theorem noS0 : NoS W0 := fun _ _ _ _ _ h => h
/-- a comprehension's loop -/
def wipeE (env : Env) : List Nat → Env
  | [] => env
  | v :: vs => (wipeE env vs).set v none
def fLcL (vs : List Nat) (bind : FG) (cond : FT) (elt : FE) : List PV → List OV → Env → Res (List OV × Env)
  | [], acc, env => .ok (acc, env)
  | p :: r, acc, env => (ofO (bind (.val p) env)).bind fun env1 => (noX (cond env1)).bind fun x =>
    if x.1 = true then (noX (elt x.2)).bind fun y => fLcL vs bind cond elt r (acc ++ [y.1]) (wipeE y.2 vs) else fLcL vs bind cond elt r acc (wipeE x.2 vs)
def fLc (vs : List Nat) (fi : FI) (bind : FG) (cond : FT) (elt : FE) : FE := fun env => (fi env).bind fun x =>
  if x.1.length ≤ 10000000 then (fLcL vs bind cond elt x.1 [] (wipeE x.2 vs)).bind fun y => .ok (.lst y.1, wipeE y.2 vs) else .stuck

theorem wipeE_len (env : Env) : ∀ vs, (wipeE env vs).length = env.length
  | [] => rfl
  | v :: vs => by
    unfold wipeE
    rw [List.length_set, wipeE_len env vs]
theorem wipeE_at (env : Env) : ∀ {vs : List Nat} {j : Nat}, j ∈ vs → j < env.length → (wipeE env vs)[j]? = some none
  | v :: vs, j, h, hl => by
    unfold wipeE
    by_cases e : v = j
    · subst e
      rw [List.getElem?_set_self (by rw [wipeE_len]; exact hl)]
    · rw [List.getElem?_set_ne e]
      exact wipeE_at env (by
        rcases List.mem_cons.mp h with z | z
        · exact absurd z.symm e
        · exact z) hl
section
variable {mg : Gm} {F H : Hp} {A : List Addr} {σ σ' : L2.St}
theorem REnv.wiped {env : Env} (r : REnv mg F H env σ A) : ∀ vs : List Nat, ∃ A', REnv mg F H (wipeE env vs) σ A' ∧ A'.Sublist A
  | [] => ⟨A, r, List.Sublist.refl _⟩
  | v :: vs => by
    obtain ⟨A1, r1, s1⟩ := REnv.wiped r vs
    obtain ⟨A2, r2, s2⟩ := r1.drop v
    exact ⟨A2, r2, s2.trans s1⟩
/-- the slots that are empty may hold anything -/
theorem REnv.any : ∀ {env : Env} {σ σ' : L2.St} {A : List Addr}, REnv mg F H env σ A → σ'.length = σ.length → (∀ j : Nat, (∃ o, env[j]? = some (some o)) → σ'[j]? = σ[j]?) → REnv mg F H env σ' A
  | [], σ, σ', _, h, l, k => by
    obtain ⟨rfl, rfl⟩ := h
    have e : σ' = [] := by simpa using l
    exact ⟨e, rfl⟩
  | none :: env, σ, σ', _, h, l, k => by
    obtain ⟨s, σ1, rfl, r⟩ := h
    cases σ' with
    | nil => simp at l
    | cons s' σ2 => exact ⟨s', σ2, rfl, REnv.any r (by simpa using l) fun j ⟨o, e⟩ => by simpa using k (j + 1) ⟨o, by simpa using e⟩⟩
  | some o :: env, σ, σ', _, h, l, k => by
    obtain ⟨v, σ1, A1, A2, rfl, rfl, r1, r2⟩ := h
    cases σ' with
    | nil => simp at l
    | cons s' σ2 =>
      have e0 : s' = some v := by simpa using k 0 ⟨o, rfl⟩
      exact ⟨v, σ2, A1, A2, by rw [e0], rfl, r1, REnv.any r2 (by simpa using l) fun j ⟨o, e⟩ => by simpa using k (j + 1) ⟨o, by simpa using e⟩⟩
theorem wipe_out {vs : List Nat} : ∀ {j : Nat}, j ∉ vs → (wipe σ vs)[j]? = σ[j]? := by
  induction vs with
  | nil => intro j _; rfl
  | cons v vs ih =>
    intro j h
    simp only [List.mem_cons, not_or] at h
    unfold wipe
    rw [List.getElem?_set_ne (Ne.symm h.1)]
    exact ih h.2
theorem wipe_at {vs : List Nat} : ∀ {j : Nat}, j ∈ vs → j < σ.length → (wipe σ vs)[j]? = some none := by
  induction vs with
  | nil => intro j h; cases h
  | cons v vs ih =>
    intro j h hl
    unfold wipe
    by_cases e : v = j
    · subst e
      rw [List.getElem?_set_self (by rw [wipe_length]; exact hl)]
    · rw [List.getElem?_set_ne e]
      exact ih (by
        rcases List.mem_cons.mp h with z | z
        · exact absurd z.symm e
        · exact z) hl
theorem wipe_eq {vs : List Nat} (b : But vs σ σ') : wipe σ' vs = wipe σ vs := by
  apply List.ext_getElem?
  intro j
  by_cases h : j ∈ vs
  · by_cases hl : j < σ.length
    · rw [wipe_at h hl, wipe_at h (by rw [b.1]; exact hl)]
    · rw [List.getElem?_eq_none (by rw [wipe_length, b.1]; omega), List.getElem?_eq_none (by rw [wipe_length]; omega)]
  · rw [wipe_out h, wipe_out h, b.2 j h]
/-- the slots at vs forgotten on both sides -/
theorem REnv.to_wipe {env : Env} (r : REnv mg F H env σ A) (vs : List Nat) : ∃ A', REnv mg F H (wipeE env vs) (wipe σ vs) A' ∧ A'.Sublist A := by
  obtain ⟨A', r', s⟩ := r.wiped vs
  refine ⟨A', r'.any (wipe_length σ vs) fun j ⟨o, e⟩ => ?_, s⟩
  refine wipe_out fun h => ?_
  have hl : j < (wipeE env vs).length := (List.getElem?_eq_some_iff.mp e).1
  rw [wipeE_len] at hl
  rw [wipeE_at env h hl] at e
  cases e
theorem REnv.of_wipe {env : Env} {vs : List Nat} (r : REnv mg F H env (wipe σ vs) A) : ∃ A', REnv mg F H (wipeE env vs) σ A' ∧ A'.Sublist A := by
  obtain ⟨A', r', s⟩ := r.wiped vs
  refine ⟨A', r'.any (wipe_length σ vs).symm fun j ⟨o, e⟩ => ?_, s⟩
  refine (wipe_out fun h => ?_).symm
  have hl : j < (wipeE env vs).length := (List.getElem?_eq_some_iff.mp e).1
  rw [wipeE_len] at hl
  rw [wipeE_at env h hl] at e
  cases e
/-- an owned object is written -/
theorem upd_good {a : Addr} {o : HO} (g : Good F (a :: A) H) : Good F (a :: A) (upd H a o) ∧ Step F (a :: A) H F (a :: A) (upd H a o) ∧ ∀ b ∈ A, ∀ u, H b = some u → upd H a o b = some u := by
  have fa : F a = none := g.dis a List.mem_cons_self
  have na : ∀ b ∈ A, b ≠ a := fun b hb e => by
    have := (List.nodup_cons.mp g.nd).1
    exact this (e ▸ hb)
  refine ⟨⟨fun b u e => ?_, g.nd, g.dis, fun b hb => ?_⟩, ⟨fun _ _ h => h, fun b u e n => ?_, fun b x y => absurd y x, fun b hb => .inl hb, fun b hb => ?_⟩, fun b hb u e => by rw [upd_ne (na b hb)]; exact e⟩
  · rw [upd_ne (ne_of_none e fa)]
    exact g.sub b u e
  · by_cases e : b = a
    · subst e; rw [upd_same]; exact fun z => nomatch z
    · rw [upd_ne e]; exact g.tr b hb
  · rw [upd_ne fun z => n (by rw [z]; exact List.mem_cons_self)]
    exact e
  · by_cases e : b = a
    · subst e; rw [upd_same]; exact fun z => nomatch z
    · rw [upd_ne e]; exact hb
theorem RepOs.snoc : ∀ {os : List OV} {vs : List V} {B : List Addr} {o : OV} {v : V} {C : List Addr}, RepOs mg F H os vs B → RepO mg F H o v C → RepOs mg F H (os ++ [o]) (vs ++ [v]) (B ++ C)
  | [], _, _, o, v, C, h, r => by
    obtain ⟨rfl, rfl⟩ := h
    exact ⟨v, [], C, [], rfl, (List.append_nil C).symm, r, rfl, rfl⟩
  | p :: l, _, _, o, v, C, h, r => by
    obtain ⟨w, ws, A1, A2, rfl, rfl, h1, h2⟩ := h
    exact ⟨w, ws ++ [v], A1, A2 ++ C, rfl, List.append_assoc _ _ _, h1, RepOs.snoc h2 r⟩
theorem RepOs.len : ∀ {os : List OV} {vs : List V} {B : List Addr}, RepOs mg F H os vs B → vs.length = os.length
  | [], _, _, h => by
    rw [h.1]
    all_goals rfl
  | p :: l, _, _, h => by
    obtain ⟨w, ws, A1, A2, rfl, rfl, h1, h2⟩ := h
    rw [List.length_cons, List.length_cons, RepOs.len h2]
end

/-- the comprehension's turns -/
theorem tLc_of {mg : Gm} {W : WX} {vs : List Nat} {fi : FI} {g : FG} {cond : FT} {elt : FE} {σ : L2.St} {H : Hp} {Q : VK} (h : tE mg W (fLc vs fi g cond elt) σ H Q) :
    tLc (tI mg W fi) (tG mg vs g) (tT mg W0 cond) (tE mg W0 elt) vs σ H Q := by
  obtain ⟨F, A, env, gd, re, m⟩ := h
  refine ⟨F, A, env, gd, re, (Run.bind m).imp (fun x hx F1 A1 H1 J s1 g1 r1 sv => ?_) fun _ _ h => h⟩
  obtain ⟨ps, env1⟩ := x
  dsimp only at hx sv r1
  split at hx
  case isFalse => exact hx.elim
  rename_i hlen
  intro D hD
  obtain ⟨s2, g2⟩ := new_step (o := .lst []) (good_nil g1) hD
  obtain ⟨q1, q2, q3⟩ := s2.aside g1 g2
  obtain ⟨A2, r2, sub2⟩ := r1.to_wipe vs
  have hx' := Run.bind hx
  refine ⟨fun i k H2 => k = ps.length - i ∧ i ≤ ps.length ∧ ∃ F2 A2 env2 acc accV BD, (∀ a o, F1 a = some o → F2 a = some o) ∧ H2 D = some (.lst accV) ∧ Good F2 ((D :: BD) ++ A2) H2 ∧ REnv mg F2 H2 env2 (wipe σ vs) A2 ∧ RepOs mg F2 H2 acc accV BD ∧ acc.length ≤ i ∧
    Run (fLcL vs g cond elt (ps.drop i) acc env2) (fun y => PostE mg F2 ((D :: BD) ++ A2) H2 σ Q (.lst y.1, wipeE y.2 vs)) (fun _ _ => True),
    ⟨ps.length, rfl, Nat.zero_le _, F1, A2, wipeE env1 vs, [], [], [], fun _ _ z => z, upd_same, q1.sl (List.Sublist.append (List.Sublist.refl _) sub2), r2.up (fun _ _ z => z) (fun a ha => q3 a (sub2.mem ha)), ⟨rfl, rfl⟩, Nat.zero_le _, ?_⟩, ?_⟩
  · rw [List.drop_zero]
    exact hx'.imp (fun y hy => PostE.step hy (s1.trans q2) fun a ha => by
      rcases List.mem_append.mp ha with z | z
      · exact List.mem_append_left _ z
      · exact List.mem_append_right _ (sub2.mem z)) fun _ _ _ => trivial
  · rintro i k H2 ⟨rfl, hi, F2, A2, env2, acc, accV, BD, ex, hD2, g2, r2, ra, hal, run⟩
    by_cases hlt : i < ps.length
    · refine .inr ⟨sv.go H2 i (fun a o e => g2.sub a o (ex a o e)) hlt, fun H' => ∃ m', m' < ps.length - i ∧ (m' = ps.length - (i + 1) ∧ i + 1 ≤ ps.length ∧ ∃ F2 A2 env2 acc accV BD, (∀ a o, F1 a = some o → F2 a = some o) ∧ H' D = some (.lst accV) ∧ Good F2 ((D :: BD) ++ A2) H' ∧ REnv mg F2 H' env2 (wipe σ vs) A2 ∧ RepOs mg F2 H' acc accV BD ∧ acc.length ≤ i + 1 ∧
        Run (fLcL vs g cond elt (ps.drop (i + 1)) acc env2) (fun y => PostE mg F2 ((D :: BD) ++ A2) H' σ Q (.lst y.1, wipeE y.2 vs)) (fun _ _ => True)), fun H' z => z, fun y H' hy => ?_⟩
      obtain ⟨rfl, p, hp, rp⟩ := sv.yld H2 i y H' (fun a o e => g2.sub a o (ex a o e)) hlt hy
      have ed : ps.drop i = p :: ps.drop (i + 1) := by
        rw [List.getElem?_eq_some_iff] at hp
        obtain ⟨h1, h2⟩ := hp
        rw [← h2]
        exact List.drop_eq_getElem_cons h1
      rw [ed] at run
      refine ⟨F2, A2, [], env2, .val p, g2.right, r2, ⟨rfl, rp.up ex⟩, (Run.ofO run).imp fun env3 h3 F3 A3 H3 σ3 s3 g3 r3 b3 => ⟨?_, ?_⟩⟩
      · have e := wipe_eq (vs := vs) (σ := wipe σ vs) (σ' := σ3) b3
        rw [e]
        exact wipe_eq ⟨wipe_length σ vs, fun j hj => wipe_out hj⟩
      have ews : wipe σ3 vs = wipe σ vs := by
        rw [wipe_eq (vs := vs) (σ := wipe σ vs) (σ' := σ3) b3]
        exact wipe_eq ⟨wipe_length σ vs, fun j hj => wipe_out hj⟩
      obtain ⟨e1, e2, e3⟩ := s3.beside (B := D :: BD) g2 g3
      -- back to the wiped slots
      have back : ∀ {F5 : Hp} {A5 : List Addr} {env5 : Env} {H5 : Hp}, REnv mg F5 H5 env5 σ3 A5 → REnv mg F5 H5 env5 σ3 A5 := fun z => z
      refine ⟨F3, A3, env3, g3, r3, (Run.noX h3).imp (fun z hz F4 A4 H4 s4 g4 r4 => ?_) fun _ _ h => h⟩
      obtain ⟨f1, f2, f3⟩ := s4.beside (B := D :: BD) e1 g4
      have hD4 : H4 D = some (.lst accV) := f3 D (List.mem_cons_self) _ (e3 D (List.mem_cons_self) _ hD2)
      have ra4 : RepOs mg F4 H4 acc accV BD := ra.up (fun a o e => s4.ext a o (s3.ext a o e)) fun a ha o e => f3 a (List.mem_cons_of_mem _ ha) o (e3 a (List.mem_cons_of_mem _ ha) o e)
      obtain ⟨b, env4⟩ := z
      -- the environment at the next turn: the slots at vs may stay as they are on the right side only if they are wiped: the body's slots are forgotten by the loop's own store
      cases b with
      | true =>
        rw [if_pos rfl] at hz
        rw [if_pos rfl]
        refine ⟨F4, A4, env4, g4, r4, (Run.noX hz).imp (fun w hw F5 B5 A5 H5 v5 s5 g5 r5 o5 => ?_) fun _ _ h => h⟩
        obtain ⟨k1, k2, k3⟩ := s5.beside (B := D :: BD) f1 g5
        have hD5 : H5 D = some (.lst accV) := k3 D (List.mem_cons_self) _ hD4
        have ra5 := ra4.up (F' := F5) (H' := H5) s5.ext fun a ha o e => k3 a (List.mem_cons_of_mem _ ha) o e
        refine ⟨accV, hD5, ?_, ?_⟩
        · have := ra5.len
          have hs : sizeLine = 16777216 := sizeLine_eq
          rw [this]
          omega
        · have k1' : Good F5 (D :: ((BD ++ B5) ++ A5)) H5 := k1.perm (by
            rw [List.append_assoc]
            exact List.Perm.refl _)
          obtain ⟨u1, u2, u3⟩ := upd_good (o := .lst (accV ++ [v5])) k1'
          have r5' : REnv mg F5 (upd H5 D (.lst (accV ++ [v5]))) w.2 σ3 A5 := r5.up (fun _ _ z => z) fun a ha => u3 a (List.mem_append_right _ ha)
          obtain ⟨A6, r6, sb6⟩ := r5'.to_wipe vs
          rw [ews] at r6
          refine ⟨ps.length - (i + 1), by omega, rfl, hlt, F5, A6, wipeE w.2 vs, acc ++ [w.1], accV ++ [v5], BD ++ B5, fun a o e => s5.ext a o (s4.ext a o (s3.ext a o (ex a o e))), upd_same, u1.sl ?_, r6, ?_, ?_, ?_⟩
          · exact List.Sublist.append (List.Sublist.refl (D :: (BD ++ B5))) sb6
          · exact (ra5.snoc o5).up (fun _ _ z => z) fun a ha => u3 a (List.mem_append_left _ ha)
          · rw [List.length_append, List.length_singleton]
            omega
          · refine Run.imp hw (fun y hy => ?_) fun _ _ h => h
            refine PostE.step hy (e2.trans (f2.trans (k2.trans (u2.more (fun a ha => ?_))))) fun a ha => ?_
            · rcases List.mem_cons.mp ha with z | z
              · rw [z]; exact List.mem_cons_self
              · refine List.mem_cons_of_mem _ ?_
                rw [List.append_assoc] at z
                exact z
            · rcases List.mem_append.mp ha with z | z
              · exact List.mem_append_left (bs := A5) (as := D :: (BD ++ B5)) z
              · exact List.mem_append_right (D :: (BD ++ B5)) (sb6.mem z)
      | false =>
        rw [if_neg Bool.false_ne_true] at hz
        rw [if_neg Bool.false_ne_true]
        obtain ⟨A6, r6, sb6⟩ := r4.to_wipe vs
        rw [ews] at r6
        exact ⟨ps.length - (i + 1), by omega, rfl, hlt, F4, A6, wipeE env4 vs, acc, accV, BD, fun a o e => s4.ext a o (s3.ext a o (ex a o e)), hD4, f1.sl (List.Sublist.append (List.Sublist.refl _) sb6), r6, ra4, by omega,
          Run.imp hz (fun y hy => PostE.step hy (e2.trans f2) fun a ha => by
            rcases List.mem_append.mp ha with z | z
            · exact List.mem_append_left _ z
            · exact List.mem_append_right _ (sb6.mem z)) fun _ _ h => h⟩
    · have e : i = ps.length := by omega
      subst e
      rw [List.drop_length] at run
      refine .inl ⟨sv.stop H2 _ (fun a o e => g2.sub a o (ex a o e)) (Nat.le_refl _), ?_⟩
      obtain ⟨A3, r3, sb3⟩ := r2.of_wipe
      have run' : PostE mg F2 ((D :: BD) ++ A2) H2 σ Q (.lst acc, wipeE env2 vs) := run
      exact run' F2 (D :: BD) A3 H2 (.ref D) (Step.refl.less fun a ha => by
        rcases List.mem_append.mp ha with z | z
        · exact List.mem_append_left _ z
        · exact List.mem_append_right _ (sb3.mem z)) (g2.sl (List.Sublist.append (List.Sublist.refl _) sb3)) r3 ⟨D, accV, BD, rfl, hD2, rfl, ra⟩
end Ev

/-! # Ev 7: comprehensions as expressions, calls, defs -/
namespace Ev
open PySem L2

def fYes : FT := fun env => .ok (true, env)
section
variable {X : Cx} {W : WX}
abbrev JTs (X : Cx) (W : WX) (ifs : List Expr) (f : FT) : Prop := PTs X ifs (tT X.gm W f)
theorem jts_0 : JTs X W [] fYes := ⟨fun pins s σ H Q I ⟨F, A, env, g, re, m⟩ => pts_nil.run pins s σ H Q I (m F A H Step.refl g re)⟩
theorem jts_1 {c : Expr} {f : FT} (h : JT X W c f) : JTs X W [c] f := pts_one h
theorem je_lc {elt tg iter : Expr} {ifs : List Expr} {scope : Scope} {own : List (Str × Nat)} {pos : Pos} {fi : FI} {g : FG} {cond : FT} {fe : FE} (hc : X.calm = true) (hN : X.N.Nodup) (hi : JI X W tg iter fi) (ok : BlkOk X.N X.env.scope scope own)
    (hg : ∀ (s : Shared) (H : Hp) (C : Addr) (cl : List (Str × Addr)) (fp : List Addr), JG (X.blk s H scope (compEnvC scope cl C X.env) fp) (own.map (·.2)) tg g) (ht : ∀ (s : Shared) (H : Hp) (C : Addr) (cl : List (Str × Addr)) (fp : List Addr), JTs (X.blk s H scope (compEnvC scope cl C X.env) fp) W0 ifs cond)
    (he : ∀ (s : Shared) (H : Hp) (C : Addr) (cl : List (Str × Addr)) (fp : List Addr), JE (X.blk s H scope (compEnvC scope cl C X.env) fp) W0 elt fe) (hs : ∀ x, foldedSetIterable iter X.env x = pure x := by intro _; rfl) :
    JE X W (.ListComp elt [⟨tg, iter, ifs, 0⟩] scope pos) (fLc (own.map (·.2)) fi g cond fe) :=
  PE.imp (pe_lc hc hN hi ok hg ht he hs) fun _ _ _ h => tLc_of h
theorem js_setLc {ts : List Nat} {i : Nat} {y : Str} {py : Pos} {elt tg iter : Expr} {ifs : List Expr} {scope : Scope} {own : List (Str × Nat)} {pos spos : Pos} {fi : FI} {g : FG} {cond : FT} {fe : FE} (hc : X.calm = true) (hN : X.N.Nodup) (hy : X.N[i]? = some y) (hyl : X.env.scope.names.lookup y = some .local)
    (hsw : swapsWith (.ListComp elt [⟨tg, iter, ifs, 0⟩] scope pos) (some (.Name y py)) spos.line X.env = pure true) (hi : JI X W tg iter fi) (ok : BlkOk X.N X.env.scope scope own)
    (hg : ∀ (s : Shared) (H : Hp) (C : Addr) (cl : List (Str × Addr)) (fp : List Addr), JG (X.blk s H scope (compEnvC scope cl C X.env) fp) (own.map (·.2)) tg g) (ht : ∀ (s : Shared) (H : Hp) (C : Addr) (cl : List (Str × Addr)) (fp : List Addr), JTs (X.blk s H scope (compEnvC scope cl C X.env) fp) W0 ifs cond)
    (he : ∀ (s : Shared) (H : Hp) (C : Addr) (cl : List (Str × Addr)) (fp : List Addr), JE (X.blk s H scope (compEnvC scope cl C X.env) fp) W0 elt fe) (ht2 : i ∈ ts := by decide) (hs : ∀ x, foldedSetIterable iter X.env x = pure x := by intro _; rfl) :
    JS X W ts (.Assign [.Name y py] (.ListComp elt [⟨tg, iter, ifs, 0⟩] scope pos) spos) (fSet i (fLc (own.map (·.2)) fi g cond fe)) :=
  PS.imp (ps_setLc hc hN hy hyl hsw hi ok hg ht he hs) fun D σ H h => by
    have h2 : tE X.gm W (fLc (own.map (·.2)) fi g cond fe) σ H (fun x H1 => D.nx (σ.set i (some x)) H1) := by
      obtain ⟨F, A, env, gd, re, m⟩ := h
      refine ⟨F, A, env, gd, re, (Run.bind m).imp (fun x hx F1 B1 A1 H1 v s1 g1 r1 o1 => ?_) fun _ _ h => h⟩
      obtain ⟨A2, r2, g2, sb⟩ := r1.put (i := i) g1 o1
      exact hx F1 A2 H1 _ (s1.less sb) g2 r2 (But.set ht2)
    exact tLc_of h2
end

/-! ### calls -/
abbrev FF := List OV → Res (OV × List OV)
def putB (sl : List (Option Nat)) : List Nat → List OV → Env → Option Env
  | [], [], env => some env
  | p :: io, o :: outs, env => match sl[p]? with
    | some (some i) => (match env[i]? with
      | some none => putB sl io outs (env.set i (some o))
      | _ => none)
    | some none => putB sl io outs env
    | none => none
  | _, _, _ => none
def fCall (g : FF) (io : List Nat) (sl : List (Option Nat)) (fa : FA) : FE := fun env => (fa env).bind fun x => (g x.1).bind fun y => (ofO (putB sl io y.2 x.2)).bind fun env2 => .ok (y.1, env2)
/-- a def's promise -/
def spF (mg : Gm) (n : Nat) (io : List Nat) (g : FF) : Sp := fun vs H Q E => ∃ F A args, Good F A H ∧ RepOs mg F H args vs A ∧ args.length = n ∧
  Run (g args) (fun x => ∀ F' B A' H' v, Step F A H F' (B ++ A') H' → Good F' (B ++ A') H' → RepO mg F' H' x.1 v B → RepOs mg F' H' x.2 (io.filterMap fun i => vs[i]?) A' → Q v H')
    (fun c fs => ∀ F' H' C d, Step F A H F' [] H' → Good F' [] H' → cls mg.mg c = some C → XD mg F' H' fs d → E (.ref C) d H')
section
variable {mg : Gm} {F H : Hp} {σ : L2.St}
theorem SlotOk.at : ∀ {sl : List (Option Nat)} {vs : List V} {p i : Nat}, SlotOk σ sl vs → sl[p]? = some (some i) → ∃ v, vs[p]? = some v ∧ σ[i]? = some (some v)
  | [], _, _, _, _, e => by simp at e
  | s :: l, _, 0, i, h, e => by
    obtain ⟨v, vs', rfl, h1, h2⟩ := h
    exact ⟨v, rfl, h1 i (by simpa using e)⟩
  | s :: l, _, p + 1, i, h, e => by
    obtain ⟨v, vs', rfl, h1, h2⟩ := h
    obtain ⟨w, a, b⟩ := SlotOk.at h2 (p := p) (i := i) (by simpa using e)
    exact ⟨w, by simpa using a, b⟩
theorem putB_ok {sl : List (Option Nat)} {vs : List V} (so : SlotOk σ sl vs) : ∀ {io : List Nat} {outs : List OV} {env env' : Env} {A B : List Addr}, RepOs mg F H outs (io.filterMap fun i => vs[i]?) B → REnv mg F H env σ A → Good F (B ++ A) H → putB sl io outs env = some env' →
    ∃ A', REnv mg F H env' σ A' ∧ Good F A' H ∧ ∀ a ∈ A', a ∈ B ++ A
  | [], [], env, env', A, B, r, re, g, e => by
    cases e
    exact ⟨A, re, g.right, fun a ha => List.mem_append_right _ ha⟩
  | [], o :: outs, env, env', A, B, r, re, g, e => by cases e
  | p :: io, [], env, env', A, B, r, re, g, e => by cases e
  | p :: io, o :: outs, env, env', A, B, r, re, g, e => by
    unfold putB at e
    split at e
    · rename_i i hi
      obtain ⟨v, hv, hσ⟩ := so.at hi
      rw [List.filterMap_cons, hv] at r
      obtain ⟨v', vs', B1, B2, e1, rfl, r1, r2⟩ := r
      cases e1
      split at e
      · rename_i hn
        obtain ⟨A1, q1, q2⟩ := re.fill (i := i) (o := o) (v := v) hn r1
        have es : σ.set i (some v) = σ := by
          rw [List.getElem?_eq_some_iff] at hσ
          obtain ⟨h1, h2⟩ := hσ
          rw [← h2]
          exact List.set_getElem_self h1
        rw [es] at q1
        have pm : ((B1 ++ B2) ++ A).Perm (B2 ++ A1) := by
          refine (List.Perm.append_right A List.perm_append_comm).trans ?_
          rw [List.append_assoc]
          exact List.Perm.append_left B2 q2.symm
        obtain ⟨A', z1, z2, z3⟩ := putB_ok so r2 q1 (g.perm pm) e
        exact ⟨A', z1, z2, fun a ha => pm.mem_iff.mpr (z3 a ha)⟩
      · cases e
    · rename_i hi
      have hp : p < vs.length := by
        rw [so.len]
        exact (List.getElem?_eq_some_iff.mp hi).1
      rw [List.filterMap_cons, List.getElem?_eq_getElem hp] at r
      obtain ⟨v', vs', B1, B2, e1, rfl, r1, r2⟩ := r
      cases e1
      obtain ⟨A', z1, z2, z3⟩ := putB_ok so r2 re (g.sl (by
        rw [List.append_assoc]
        exact List.sublist_append_right B1 _)) e
      exact ⟨A', z1, z2, fun a ha => by
        rw [List.append_assoc]
        exact List.mem_append_right _ (z3 a ha)⟩
    · cases e
end
section
variable {X : Cx} {W : WX}
/-- the callee's promise, where the caller stands -/
theorem spF_of {mg : Gm} {n : Nat} {io : List Nat} {g : FF} {sl : List (Option Nat)} {σ : L2.St} {Q : VK} {F H F1 H1 : Hp} {A A1 B1 : List Addr} {os : List OV} {env1 : Env} {vs : List V} (hn : sl.length = n) (s1 : Step F A H F1 (B1 ++ A1) H1) (g1 : Good F1 (B1 ++ A1) H1) (r1 : REnv mg F1 H1 env1 σ A1) (o1 : RepOs mg F1 H1 os vs B1) (so : SlotOk σ sl vs)
    (hx : Run ((g os).bind fun y => (ofO (putB sl io y.2 env1)).bind fun env2 => .ok (y.1, env2)) (PostE mg F A H σ Q) (PostX mg W F A H σ)) : spF mg n io g vs H1 Q (WE W σ) := by
  refine ⟨F1, B1, os, g1.left, o1, by rw [← o1.len, so.len, hn], (Run.bind hx).imp (fun y hy F2 B2 A2 H2 v s2 g2 r2 ro2 => ?_) fun c fs hq F2 H2 C d s2 g2 ec xd => ?_⟩
  · -- the slots beside
    have gp : Good F1 (A1 ++ B1) H1 := g1.perm List.perm_append_comm
    obtain ⟨q1, q2, q3⟩ := s2.beside gp g2
    have hy2 := Run.ofO hy
    cases e : putB sl io y.2 env1 with
    | none => rw [e] at hy2; exact hy2.elim
    | some env2 =>
      rw [e] at hy2
      have q1' : Good F2 (B2 ++ (A2 ++ A1)) H2 := q1.perm (List.perm_append_comm.trans (by
        rw [List.append_assoc]))
      obtain ⟨A3, z1, z2, z3⟩ := putB_ok so ro2 (r1.up s2.ext q3) q1'.right e
      have gg : Good F2 (B2 ++ A3) H2 := by
        have hd := List.nodup_append.mp q1'.nd
        refine ⟨q1'.sub, List.nodup_append.mpr ⟨hd.1, z2.nd, fun a ha b hb => hd.2.2 a ha b (z3 b hb)⟩, fun a ha => ?_, fun a ha => ?_⟩
        · rcases List.mem_append.mp ha with z | z
          · exact q1'.dis a (List.mem_append_left _ z)
          · exact z2.dis a z
        · rcases List.mem_append.mp ha with z | z
          · exact q1'.tr a (List.mem_append_left _ z)
          · exact z2.tr a z
      refine hy2 F2 B2 A3 H2 v (s1.trans ((q2.more fun a ha => ?_).less fun a ha => ?_)) gg z1 r2
      · rcases List.mem_append.mp ha with z | z
        · exact List.mem_append_right _ z
        · exact List.mem_append_left _ z
      · rcases List.mem_append.mp ha with z | z
        · exact List.mem_append_right _ (List.mem_append_left _ z)
        · rcases List.mem_append.mp (z3 a z) with w | w
          · exact List.mem_append_right _ (List.mem_append_right _ w)
          · exact List.mem_append_left _ w
  · exact (PostX.step hq s1 (A2 := B1) fun a ha => List.mem_append_left _ ha) F2 H2 C d s2 g2 ec xd
theorem tE_call {mg : Gm} {n : Nat} {io : List Nat} {g : FF} {sl : List (Option Nat)} {fa : FA} {σ : L2.St} {H : Hp} {Q : VK} (hn : sl.length = n) (h : tE mg W (fCall g io sl fa) σ H Q) : tCallS (spF mg n io g) (WE W) (tA mg W sl fa) σ H Q := by
  obtain ⟨F, A, env, gd, re, m⟩ := h
  exact ⟨F, A, env, gd, re, (Run.bind m).imp (fun x hx F1 B1 A1 H1 vs s1 g1 r1 o1 so => spF_of hn s1 g1 r1 o1 so hx) fun _ _ h => h⟩
theorem je_call {k : Nat} {f : Addr} {fd : FuncData} {ps : List Str} {n : Nat} {io : List Nat} {g : FF} {x : Str} {p pos : Pos} {e : Expr} {es : List Expr} {sl : List (Option Nat)} {fa : FA} (tk : Takes X W) (F : FnOk X.prog X.w X.K X.mg X.base (L2.CX X.prog X.w) k f fd ps (spF X.gm n io g)) (hr : Room k X.A) (hg : Gl X x) (hm : X.mg x = some (.ref f)) (hk : PySem.W.keepIn X.K (.ref f) = true) (hb : Binds X.K fd ps [])
    (ha : JA X W (e :: es) sl fa) (hn : sl.length = n := by rfl) (hdb : (x == ("__debug__" : Str)) = false := by decide) (he : starEach (e :: es) X.env = (false, eval e X.env) :: starEach es X.env := by rfl) (hpl : (backTo pos (starEach es X.env)).any (·.1) = false := by rfl) :
    JE X W (.Call (.Name x p) (e :: es) [] pos) (fCall g io sl fa) :=
  PE.imp (pe_callS F hr hg hm hk hb (fun σ => passAt tk σ) ha hdb he hpl) fun _ _ _ h => tE_call hn h
end

/-! ### defs -/
def outsOf (env : Env) : List Nat → Option (List OV)
  | [] => some []
  | i :: io => match env[i]? with
    | some (some o) => (outsOf (env.set i none) io).map (o :: ·)
    | _ => none
def fn (n : Nat) (io : List Nat) (body : FS) : FF := fun args => (body (args.map some ++ List.replicate (n - args.length) none)).bind fun x => match x.1 with
  | .nx => (ofO (outsOf x.2 io)).bind fun os => .ok (.val .non, os)
  | .rt o => (ofO (outsOf x.2 io)).bind fun os => .ok (o, os)
  | _ => .stuck
section
variable {mg : Gm} {F H : Hp}
theorem outs_ok : ∀ {io : List Nat} {env : Env} {σ : L2.St} {A : List Addr} {os : List OV}, REnv mg F H env σ A → outsOf env io = some os → ∃ B A', RepOs mg F H os (io.filterMap fun i => (σ[i]?).join) B ∧ A.Perm (B ++ A')
  | [], env, σ, A, os, r, e => by
    cases e
    exact ⟨[], A, ⟨rfl, rfl⟩, List.Perm.refl _⟩
  | i :: io, env, σ, A, os, r, e => by
    unfold outsOf at e
    split at e
    · rename_i o ho
      obtain ⟨v, B, A', e1, ro, r', pm⟩ := r.take ho
      cases q : outsOf (env.set i none) io with
      | none => rw [q] at e; cases e
      | some os' =>
        rw [q] at e
        cases e
        obtain ⟨B2, A2, z1, z2⟩ := outs_ok r' q
        refine ⟨B ++ B2, A2, ?_, ?_⟩
        · rw [List.filterMap_cons, e1]
          exact ⟨v, _, B, B2, rfl, rfl, ro, z1⟩
        · rw [List.append_assoc]
          exact pm.trans (List.Perm.append_left B z2)
    · cases e
theorem REnv.start : ∀ {args : List OV} {vs : List V} {A : List Addr} (k : Nat), RepOs mg F H args vs A → REnv mg F H (args.map some ++ List.replicate k none) (vs.map some ++ List.replicate k none) A
  | [], _, _, k, h => by
    obtain ⟨rfl, rfl⟩ := h
    show REnv mg F H (List.replicate k none) (List.replicate k none) []
    induction k with
    | zero => exact ⟨rfl, rfl⟩
    | succ k ih => exact ⟨none, _, rfl, ih⟩
  | o :: l, _, _, k, h => by
    obtain ⟨v, vs', A1, A2, rfl, rfl, h1, h2⟩ := h
    exact ⟨v, _, A1, A2, rfl, rfl, h1, REnv.start k h2⟩
end
abbrev WD (E : XK) : WX := fun cls d _ H => E cls d H
theorem nosD {E : XK} : NoS (WD E) := fun _ _ _ _ _ h => h
section
variable {P : Program} {w : World} {K : PySem.W.Frag} {mg : Str → Option Value} {base : Heap}
abbrev cxD (P : Program) (w : World) (K : PySem.W.Frag) (mg : Str → Option Value) (base : Heap) (N : List Str) (qual : Str) (st : Stmt) (f : Addr) (cdv : Value) (A : Around) (outer : List PySem.Env) (s : Shared) (H : Hp) (E : XK) : Cx := cxOf (L2.CX P w) P w K mg base N qual (defScope st) f cdv A outer s H E
theorem fn_ok {x qual : Str} {st : Stmt} {f : Addr} {fd : FuncData} {N ps : List Str} {k : Nat} {io ts : List Nat} {body : FS} (F : Fun K x qual st f fd) (S : FnScope N ps (defScope st)) (hio : ∀ i ∈ io, i ∉ ts ∧ i < ps.length)
    (hbody : ∀ (cdv : Value) (A : Around) (outer : List PySem.Env) (s : Shared) (H : Hp) (E : XK), Room k (cxOf (L2.CX P w) P w K mg base N qual (defScope st) f cdv A outer s H E).A → Takes (cxOf (L2.CX P w) P w K mg base N qual (defScope st) f cdv A outer s H E) (WD E) →
      PassesOwn (model P w) (cxOf (L2.CX P w) P w K mg base N qual (defScope st) f cdv A outer s H E).A (cxOf (L2.CX P w) P w K mg base N qual (defScope st) f cdv A outer s H E).env (cxOf (L2.CX P w) P w K mg base N qual (defScope st) f cdv A outer s H E).xe →
      JSs (cxOf (L2.CX P w) P w K mg base N qual (defScope st) f cdv A outer s H E) (WD E) ts (defBody st) body) : FnOk P w K mg base (L2.CX P w) (k + 1) f fd ps (spF ⟨K, mg⟩ ps.length io (fn N.length io body)) := by
  refine F.okX S (fun vs H Q E h => ?_) (fun cdv A outer s H vs Q E hr h => ⟨_, hbody cdv A outer s H E hr (takes_of rfl rfl rfl rfl) (passes_of rfl), ?_⟩)
  · obtain ⟨F0, A0, args, g, r, hl, _⟩ := h
    rw [r.len, hl]
  · obtain ⟨F0, A0, args, g, r, hl, m⟩ := h
    have hlv : vs.length = args.length := r.len
    refine ⟨F0, A0, args.map some ++ List.replicate (N.length - args.length) none, g, ?_, ?_⟩
    · unfold L2.start
      rw [hlv]
      exact REnv.start _ r
    · refine (Run.bind m).imp (fun y hy => ?_) fun c fs hq F' H' C d s' g' ec xd => hq F' H' C d s' g' ec xd
      obtain ⟨fl, env'⟩ := y
      have key : ∀ {σ' : L2.St}, But ts (L2.start N vs) σ' → (io.filterMap fun i => (σ'[i]?).join) = io.filterMap fun i => vs[i]? := fun {σ'} b => by
        have aux : ∀ l : List Nat, (∀ i ∈ l, i ∉ ts ∧ i < ps.length) → (l.filterMap fun i => (σ'[i]?).join) = l.filterMap fun i => vs[i]? := by
          intro l
          induction l with
          | nil => intro _; rfl
          | cons i l ih =>
            intro h
            obtain ⟨h1, h2⟩ := h i List.mem_cons_self
            have hi : i < vs.length := by rw [hlv, hl]; exact h2
            have e : σ'[i]? = some (some vs[i]) := by
              rw [b.2 i h1]
              unfold L2.start
              rw [List.getElem?_append_left (by simpa using hi), List.getElem?_map, List.getElem?_eq_getElem hi]
              rfl
            rw [List.filterMap_cons, List.filterMap_cons, e, List.getElem?_eq_getElem hi, ih fun j hj => h j (List.mem_cons_of_mem _ hj)]
            rfl
        exact aux io hio
      cases fl with
      | nx =>
        intro F1 A1 H1 σ1 s1 g1 r1 b1
        have hy2 := Run.ofO hy
        cases e : outsOf env' io with
        | none => rw [e] at hy2; exact hy2.elim
        | some os =>
          rw [e] at hy2
          obtain ⟨B, A', z1, z2⟩ := outs_ok r1 e
          rw [key b1] at z1
          exact hy2 F1 [] B H1 .non (s1.less fun a ha => z2.mem_iff.mpr (List.mem_append_left _ ha)) (g1.perm z2).left ⟨rfl, rfl⟩ z1
      | rt o =>
        intro F1 B1 A1 H1 σ1 v s1 g1 r1 b1 ro
        have hy2 := Run.ofO hy
        cases e : outsOf env' io with
        | none => rw [e] at hy2; exact hy2.elim
        | some os =>
          rw [e] at hy2
          obtain ⟨B, A', z1, z2⟩ := outs_ok r1 e
          rw [key b1] at z1
          have pm : (B1 ++ A1).Perm ((B1 ++ B) ++ A') := by
            rw [List.append_assoc]
            exact List.Perm.append_left B1 z2
          exact hy2 F1 B1 B H1 v (s1.less fun a ha => pm.mem_iff.mpr (List.mem_append_left _ ha)) (g1.perm pm).left ro z1
      | bk => exact hy.elim
      | ct => exact hy.elim
/-- with no calls left nothing is promised -/
theorem fn_none {f : Addr} {fd : FuncData} {ps : List Str} {n : Nat} {io : List Nat} {g : FF} (h : ∀ a, g a = .stuck) : FnOk P w K mg base (L2.CX P w) 0 f fd ps (spF ⟨K, mg⟩ n io g) := by
  have no : ∀ vs H Q E, ¬ spF ⟨K, mg⟩ n io g vs H Q E := fun vs H Q E ⟨_, _, args, _, _, _, m⟩ => by
    rw [h args] at m
    exact m
  exact ⟨fun vs H Q E h => absurd h (no vs H Q E), fun A outer s H args us vs Q E _ _ _ _ h => absurd h (no vs H Q E)⟩
end
end Ev

/-! # Ev 8: the operations by value -/
namespace Ev
open PySem L2

def big : Nat := 10000000
theorem big_le {n : Nat} (h : n ≤ 10000000) : n ≤ sizeLine := by
  have hs : sizeLine = 16777216 := sizeLine_eq
  omega
theorem big_lt {n : Nat} (h : n ≤ 10000000) : n < sizeLine := by
  have hs : sizeLine = 16777216 := sizeLine_eq
  omega
def ov (p : PV) : Res OV := .ok (.val p)
def ol (l : List PV) : Res OV := if l.length ≤ 10000000 then .ok (.lst (l.map .val)) else .stuck

section
variable {mg : Gm} {F H : Hp}
theorem Reps.app : ∀ {ps qs : List PV} {vs ws : List V}, Reps mg F ps vs → Reps mg F qs ws → Reps mg F (ps ++ qs) (vs ++ ws)
  | [], _, _, _, h, r => by
    rw [show _ = [] from h]
    exact r
  | p :: l, _, _, _, h, r => by
    obtain ⟨v, vs', rfl, h1, h2⟩ := h
    exact ⟨v, _, rfl, h1, Reps.app h2 r⟩
theorem Reps.rev : ∀ {ps : List PV} {vs : List V}, Reps mg F ps vs → Reps mg F ps.reverse vs.reverse
  | [], _, h => by
    rw [show _ = [] from h]
    rfl
  | p :: l, _, h => by
    obtain ⟨v, vs', rfl, h1, h2⟩ := h
    rw [List.reverse_cons, List.reverse_cons]
    exact (Reps.rev h2).app ⟨v, [], rfl, h1, rfl⟩
theorem Reps.drop : ∀ {ps : List PV} {vs : List V} (n : Nat), Reps mg F ps vs → Reps mg F (ps.drop n) (vs.drop n)
  | _, _, 0, h => h
  | [], _, n + 1, h => by
    rw [show _ = [] from h]
    rfl
  | p :: l, _, n + 1, h => by
    obtain ⟨v, vs', rfl, h1, h2⟩ := h
    exact Reps.drop n h2
theorem Reps.take : ∀ {ps : List PV} {vs : List V} (n : Nat), Reps mg F ps vs → Reps mg F (ps.take n) (vs.take n)
  | _, _, 0, h => rfl
  | [], _, n + 1, h => by
    rw [show _ = [] from h]
    rfl
  | p :: l, _, n + 1, h => by
    obtain ⟨v, vs', rfl, h1, h2⟩ := h
    exact ⟨v, _, rfl, h1, Reps.take n h2⟩
theorem Reps.get {ps : List PV} {vs : List V} (h : Reps mg F ps vs) {i : Nat} {p : PV} (e : ps[i]? = some p) : ∃ v, vs[i]? = some v ∧ Rep mg F p v := by
  have hi : i < vs.length := by rw [h.len]; exact (List.getElem?_eq_some_iff.mp e).1
  obtain ⟨q, h1, h2⟩ := h.at (List.getElem?_eq_getElem hi)
  rw [e] at h1
  cases h1
  exact ⟨_, List.getElem?_eq_getElem hi, h2⟩
/-- a new list of frozen items -/
theorem ol_post {Q : VK} {ps : List PV} (m : Run (ol ps) (PostO mg F H Q) (fun _ _ => False)) : ps.length ≤ 10000000 ∧ PostO mg F H Q (.lst (ps.map .val)) := by
  unfold ol at m
  split at m
  · exact ⟨by assumption, m⟩
  · exact m.elim

/-! ### arithmetic -/
def gI (C : Int → Int → Bool) (f : Int → Int → PV) : PV → PV → Res OV
  | .int a, .int b => if C a b = true then ov (f a b) else .stuck
  | _, _ => .stuck
theorem op2_I {C : Int → Int → Prop} {g : Int → Int → V} {C' : Int → Int → Bool} {f : Int → Int → PV} (hC : ∀ a b, C' a b = true → C a b) (hf : ∀ (F : Hp) a b, Rep mg F (f a b) (g a b)) : Op2 mg (rI C g) (gI C' f) := fun F H x y p q Q gd r1 r2 m => by
  cases p with
  | int a =>
    cases q with
    | int b =>
      have m' : Run (if C' a b = true then ov (f a b) else .stuck) (PostO mg F H Q) (fun _ _ => False) := m
      split at m'
      · rename_i hc
        exact ⟨a, b, r1, r2, hC a b hc, PostO.val (p := f a b) m' gd (hf F a b)⟩
      · exact m'.elim
    | _ => exact m.elim
  | _ => exact m.elim
def gI0 (f : Int → Int → PV) : PV → PV → Res OV
  | .int a, .int b => ov (f a b)
  | _, _ => .stuck
theorem op2_I0 {g : Int → Int → V} {f : Int → Int → PV} (hf : ∀ (F : Hp) a b, Rep mg F (f a b) (g a b)) : Op2 mg (rI0 g) (gI0 f) := fun F H x y p q Q gd r1 r2 m => by
  cases p with
  | int a =>
    cases q with
    | int b => exact ⟨a, b, r1, r2, PostO.val (p := f a b) m gd (hf F a b)⟩
    | _ => exact m.elim
  | _ => exact m.elim
theorem calm_I {C : Int → Int → Bool} {f : Int → Int → PV} : Calm2 (gI C f) := fun p q c fs h => by
  unfold gI at h
  split at h
  · split at h <;> cases h
  · cases h
theorem calm_I0 {f : Int → Int → PV} : Calm2 (gI0 f) := fun p q c fs h => by
  unfold gI0 at h
  split at h <;> cases h
theorem ol_calm {l : List PV} {c : Str} {fs : List (Str × PV)} : ol l ≠ .exc c fs := fun h => by
  unfold ol at h
  split at h <;> cases h
def gAdd : PV → PV → Res OV
  | .int a, .int b => ov (.int (a + b))
  | .lst a, .lst b => ol (a ++ b)
  | .str a, .str b => if a.length + b.length ≤ 10000000 then ov (.str (a ++ b)) else .stuck
  | .tup a, .tup b => if (a.isEmpty || b.isEmpty) = false ∧ a.length + b.length ≤ 10000000 then ov (.tup (a ++ b)) else .stuck
  | _, _ => .stuck
theorem calm_add : Calm2 gAdd := fun p q c fs h => by
  unfold gAdd at h
  split at h
  · cases h
  · exact ol_calm h
  · split at h <;> cases h
  · split at h <;> cases h
  · cases h
def rAddA (K : PySem.W.Frag) : R2 := fun x y H Q => rI0 (fun i j => .int (i + j)) x y H Q ∨ rCat x y H Q ∨ (∃ i j, x = .str i ∧ y = .str j ∧ i.length + j.length ≤ sizeLine ∧ Q (.str (i ++ j)) H) ∨ rCatT K x y H Q
theorem or_add {X : Cx} : OpR X (binaryOp .Add) (rAddA X.K) := op_add.or (op_cat.or (op_add_str.or op_catT))
theorem o2_add : Op2 mg (rAddA mg.K) gAdd := fun F H x y p q Q gd r1 r2 m => by
  unfold gAdd at m
  split at m
  · exact .inl ⟨_, _, r1, r2, PostO.val m gd rfl⟩
  · rename_i a b
    obtain ⟨hl, m'⟩ := ol_post m
    obtain ⟨a1, vs, rfl, h1, h2⟩ := r1
    obtain ⟨a2, ws, rfl, h3, h4⟩ := r2
    exact .inr (.inl ⟨a1, a2, vs, ws, rfl, rfl, gd.sub _ _ h1, gd.sub _ _ h3, big_le (by rw [h2.len, h4.len, ← List.length_append]; exact hl), fun p hp => m'.lst gd hp (h2.app h4)⟩)
  · split at m
    · exact .inr (.inr (.inl ⟨_, _, r1, r2, big_le (by assumption), PostO.val m gd rfl⟩))
    · exact m.elim
  · rename_i a b
    split at m
    · rename_i h
      obtain ⟨hn, hl⟩ := h
      obtain ⟨a1, vs, rfl, h1, h2⟩ := r1
      obtain ⟨a2, ws, rfl, h3, h4⟩ := r2
      simp only [Bool.or_eq_false_iff, List.isEmpty_eq_false_iff] at hn
      refine .inr (.inr (.inr ⟨a1, a2, vs, ws, rfl, rfl, SqT.of (gd.sub _ _ h1), SqT.of (gd.sub _ _ h3), fun e => ?_, big_le (by rw [h2.len, h4.len]; exact hl), fun e => ?_, fun _ p hp => PostO.tup m gd hp (h2.app h4)⟩))
      · subst e
        have := h2.len
        exact hn.1 (List.length_eq_zero_iff.mp this.symm)
      · subst e
        have := h4.len
        exact absurd (List.length_eq_zero_iff.mp this.symm) hn.2
    · exact m.elim
  · exact m.elim

/-! ### comparison -/
def gIs (neg : Bool) : PV → PV → Res OV
  | .non, .non => ov (.bl (!neg))
  | _, .non => ov (.bl neg)
  | _, _ => .stuck
theorem Rep.non_iff {p : PV} {v : V} (r : Rep mg F p v) (h : v = .non) : p = .non := by
  cases p with
  | non => rfl
  | bl _ => rw [show v = _ from r] at h; cases h
  | int _ => rw [show v = _ from r] at h; cases h
  | str _ => rw [show v = _ from r] at h; cases h
  | tup _ => obtain ⟨_, _, rfl, _⟩ := r; cases h
  | lst _ => obtain ⟨_, _, rfl, _⟩ := r; cases h
  | dct _ => obtain ⟨_, _, rfl, _⟩ := r; cases h
  | ins _ _ => obtain ⟨_, _, _, _, rfl, _⟩ := r; cases h
  | scr _ => obtain ⟨_, rfl, _⟩ := r; cases h
  | dtt _ => obtain ⟨_, rfl, _⟩ := r; cases h
theorem calm_is {n : Bool} : Calm2 (gIs n) := fun p q c fs h => by
  unfold gIs at h
  split at h <;> cases h
theorem o2_isN : Op2 mg (fun x y H Q => y = .non ∧ Q (.bl (decide (x = .non))) H) (gIs false) := fun F H x y p q Q gd r1 r2 m => by
  unfold gIs at m
  split at m
  · have e : x = .non := r1
    refine ⟨r2, ?_⟩
    rw [decide_eq_true e]
    exact PostO.val m gd rfl
  · rename_i hp
    refine ⟨r2, ?_⟩
    rw [decide_eq_false fun e => hp (r1.non_iff e)]
    exact PostO.val m gd rfl
  · exact m.elim
theorem o2_notN : Op2 mg (fun x y H Q => y = .non ∧ Q (.bl (!decide (x = .non))) H) (gIs true) := fun F H x y p q Q gd r1 r2 m => by
  unfold gIs at m
  split at m
  · have e : x = .non := r1
    refine ⟨r2, ?_⟩
    rw [decide_eq_true e]
    exact PostO.val m gd rfl
  · rename_i hp
    refine ⟨r2, ?_⟩
    rw [decide_eq_false fun e => hp (r1.non_iff e)]
    exact PostO.val m gd rfl
  · exact m.elim
/-! == of data -/
mutual
def dp : PV → Option PyData
  | .non => some .none
  | .bl b => some (.bool b)
  | .int i => some (.int i)
  | .str s => some (.str s)
  | .tup l => (dps l).map .tuple
  | .lst l => (dps l).map .list
  | _ => none
def dps : List PV → Option (List PyData)
  | [] => some []
  | p :: l => match dp p, dps l with
    | some d, some ds => some (d :: ds)
    | _, _ => none
end
mutual
theorem dp_ok (K : PySem.W.Frag) : ∀ {p : PV} {d : PyData} {v : V}, (∀ a o, F a = some o → H a = some o) → dp p = some d → Rep mg F p v → Dp K H v d
  | .non, d, v, s, e, r => by
    rw [show v = _ from r]
    cases e
    exact .non
  | .bl b, d, v, s, e, r => by
    rw [show v = _ from r]
    cases e
    exact .bl b
  | .int b, d, v, s, e, r => by
    rw [show v = _ from r]
    cases e
    exact .int b
  | .str b, d, v, s, e, r => by
    rw [show v = _ from r]
    cases e
    exact .str b
  | .tup l, d, v, s, e, r => by
    obtain ⟨a, vs, rfl, h1, h2⟩ := r
    unfold dp at e
    cases q : dps l with
    | none => rw [q] at e; cases e
    | some ds =>
      rw [q] at e
      cases e
      exact .tup (SqT.of (s _ _ h1)) (dps_ok K s q h2)
  | .lst l, d, v, s, e, r => by
    obtain ⟨a, vs, rfl, h1, h2⟩ := r
    unfold dp at e
    cases q : dps l with
    | none => rw [q] at e; cases e
    | some ds =>
      rw [q] at e
      cases e
      exact .lst (SqL.of (s _ _ h1)) (dps_ok K s q h2)
  | .dct _, d, v, s, e, r => by cases e
  | .ins _ _, d, v, s, e, r => by cases e
  | .scr _, d, v, s, e, r => by cases e
  | .dtt _, d, v, s, e, r => by cases e
theorem dps_ok (K : PySem.W.Frag) : ∀ {l : List PV} {ds : List PyData} {vs : List V}, (∀ a o, F a = some o → H a = some o) → dps l = some ds → Reps mg F l vs → DpAll K H vs ds
  | [], ds, vs, s, e, r => by
    rw [show vs = [] from r]
    cases e
    exact .nil
  | p :: l, ds, vs, s, e, r => by
    obtain ⟨v, vs', rfl, h1, h2⟩ := r
    unfold dps at e
    split at e
    · rename_i d ds' e1 e2
      cases e
      exact .cons (dp_ok K s e1 h1) (dps_ok K s e2 h2)
    · cases e
end
def eqD (p q : PV) : Option Bool := match dp p, dp q with
  | some d, some e => if SeqAt.shaped d = true ∧ SeqAt.shaped e = true then some (PyData.eqv d e) else none
  | _, _ => none
def gEq : PV → PV → Res OV
  | .int a, .int b => ov (.bl (decide (a = b)))
  | .str a, .str b => ov (.bl (decide (a = b)))
  | p, q => match eqD p q with
    | some b => ov (.bl b)
    | none => .stuck
def gNe : PV → PV → Res OV
  | .int a, .int b => ov (.bl (!decide (a = b)))
  | .str a, .str b => ov (.bl (!decide (a = b)))
  | p, q => match eqD p q with
    | some b => ov (.bl (!b))
    | none => .stuck
def rEqA (K : PySem.W.Frag) : R2 := fun x y H Q => rEq x y H Q ∨ rEqD K x y H Q
def rNeA (K : PySem.W.Frag) : R2 := fun x y H Q => rNe x y H Q ∨ rNeD K x y H Q
theorem or_eq {X : Cx} (hu : X.A.units + 64 < cLine) : OpR X (compareOp .Eq) (rEqA X.K) := op_eq.or (op_eqD hu)
theorem or_ne {X : Cx} (hu : X.A.units + 64 < cLine) : OpR X (compareOp .NotEq) (rNeA X.K) := op_ne.or (op_neD hu)
theorem calm_eq : Calm2 gEq := fun p q c fs h => by
  unfold gEq at h
  split at h
  · cases h
  · cases h
  · split at h <;> cases h
theorem calm_ne : Calm2 gNe := fun p q c fs h => by
  unfold gNe at h
  split at h
  · cases h
  · cases h
  · split at h <;> cases h
theorem decV_int {a b : Int} : decide (V.int a = V.int b) = decide (a = b) := by
  by_cases h : a = b
  · subst h; simp
  · rw [decide_eq_false h, decide_eq_false fun e => h (V.int.inj e)]
theorem decV_str {a b : Str} : decide (V.str a = V.str b) = decide (a = b) := by
  by_cases h : a = b
  · subst h; simp
  · rw [decide_eq_false h, decide_eq_false fun e => h (V.str.inj e)]
theorem o2_eq : Op2 mg (rEqA mg.K) gEq := fun F H x y p q Q gd r1 r2 m => by
  unfold gEq at m
  split at m
  · rw [show x = _ from r1, show y = _ from r2]
    refine .inl ⟨rfl, ?_⟩
    rw [decV_int]
    exact PostO.val m gd rfl
  · rw [show x = _ from r1, show y = _ from r2]
    refine .inl ⟨rfl, ?_⟩
    rw [decV_str]
    exact PostO.val m gd rfl
  · split at m
    · rename_i b hb
      unfold eqD at hb
      split at hb
      · rename_i d e h1 h2
        split at hb
        · rename_i hs
          cases hb
          exact .inr ⟨d, e, dp_ok mg.K gd.sub h1 r1, dp_ok mg.K gd.sub h2 r2, hs.1, hs.2, PostO.val m gd rfl⟩
        · cases hb
      · cases hb
    · exact m.elim
theorem o2_ne : Op2 mg (rNeA mg.K) gNe := fun F H x y p q Q gd r1 r2 m => by
  unfold gNe at m
  split at m
  · rw [show x = _ from r1, show y = _ from r2]
    refine .inl ⟨rfl, ?_⟩
    rw [decV_int]
    exact PostO.val m gd rfl
  · rw [show x = _ from r1, show y = _ from r2]
    refine .inl ⟨rfl, ?_⟩
    rw [decV_str]
    exact PostO.val m gd rfl
  · split at m
    · rename_i b hb
      unfold eqD at hb
      split at hb
      · rename_i d e h1 h2
        split at hb
        · rename_i hs
          cases hb
          exact .inr ⟨d, e, dp_ok mg.K gd.sub h1 r1, dp_ok mg.K gd.sub h2 r2, hs.1, hs.2, PostO.val m gd rfl⟩
        · cases hb
      · cases hb
    · exact m.elim
/-! in, not in: flat items -/
def flatP : PV → Option V
  | .non => some .non
  | .bl b => some (.bl b)
  | .int i => some (.int i)
  | .str s => some (.str s)
  | _ => none
def flats : List PV → Option (List V)
  | [] => some []
  | p :: l => match flatP p, flats l with
    | some v, some vs => some (v :: vs)
    | _, _ => none
theorem flatP_ok {p : PV} {v w : V} (e : flatP p = some w) (r : Rep mg F p v) : v = w ∧ flatV v = true := by
  cases p with
  | non => cases e; rw [show v = _ from r]; exact ⟨rfl, rfl⟩
  | bl _ => cases e; rw [show v = _ from r]; exact ⟨rfl, rfl⟩
  | int _ => cases e; rw [show v = _ from r]; exact ⟨rfl, rfl⟩
  | str _ => cases e; rw [show v = _ from r]; exact ⟨rfl, rfl⟩
  | _ => cases e
theorem flats_ok : ∀ {l : List PV} {vs ws : List V}, flats l = some ws → Reps mg F l vs → vs = ws ∧ vs.all flatV = true
  | [], vs, ws, e, r => by
    rw [show vs = [] from r]
    cases e
    exact ⟨rfl, rfl⟩
  | p :: l, vs, ws, e, r => by
    obtain ⟨v, vs', rfl, h1, h2⟩ := r
    unfold flats at e
    split at e
    · rename_i d ds' e1 e2
      cases e
      obtain ⟨rfl, q1⟩ := flatP_ok e1 h1
      obtain ⟨rfl, q2⟩ := flats_ok e2 h2
      exact ⟨rfl, by rw [List.all_cons, q1, q2]; rfl⟩
    · cases e
def itl : PV → Option (List PV)
  | .lst l => some l
  | .tup l => some l
  | _ => none
def inP (p q : PV) : Option Bool := match flatP p, (itl q).bind flats with
  | some v, some vs => some (inV v vs)
  | _, _ => none
def gIn (neg : Bool) (p q : PV) : Res OV := match inP p q with
  | some b => ov (.bl (if neg = true then !b else b))
  | none => .stuck
theorem calm_in {n : Bool} : Calm2 (gIn n) := fun p q c fs h => by
  unfold gIn at h
  split at h <;> cases h
theorem o2_in {neg : Bool} : Op2 mg (rIn mg.K neg) (gIn neg) := fun F H x y p q Q gd r1 r2 m => by
  unfold gIn at m
  split at m
  · rename_i b hb
    unfold inP at hb
    split at hb
    · rename_i v vs h1 h2
      cases hb
      obtain ⟨rfl, f1⟩ := flatP_ok h1 r1
      cases q with
      | lst l =>
        obtain ⟨a, ws, rfl, h3, h4⟩ := r2
        obtain ⟨rfl, f2⟩ := flats_ok h2 h4
        exact ⟨a, ws, rfl, .inl (SqL.of (gd.sub _ _ h3)), f1, f2, PostO.val m gd rfl⟩
      | tup l =>
        obtain ⟨a, ws, rfl, h3, h4⟩ := r2
        obtain ⟨rfl, f2⟩ := flats_ok h2 h4
        exact ⟨a, ws, rfl, .inr (SqT.of (gd.sub _ _ h3)), f1, f2, PostO.val m gd rfl⟩
      | _ => cases h2
    · cases hb
  · exact m.elim
/-! ### subscripts, slices -/
def gIx : PV → PV → Res OV
  | .lst l, .int i => (match atI l i with
    | some p => ov p
    | none => .stuck)
  | .tup l, .int i => (match atI l i with
    | some p => ov p
    | none => .stuck)
  | .str s, .int i => if s.length ≤ 10000000 then (match atI s.cps.toList i with
    | some c => ov (.str ⟨#[c]⟩)
    | none => .stuck) else .stuck
  | _, _ => .stuck
theorem calm_ix : Calm2 gIx := fun p q c fs h => by
  unfold gIx at h
  split at h
  · split at h <;> cases h
  · split at h <;> cases h
  · split at h
    · split at h <;> cases h
    · cases h
  · cases h
theorem Reps.atI {ps : List PV} {vs : List V} {i : Int} {p : PV} (r : Reps mg F ps vs) (e : L2.atI ps i = some p) : ∃ v, L2.atI vs i = some v ∧ Rep mg F p v := by
  unfold L2.atI at e ⊢
  rw [← r.len] at e
  cases q : ixN vs.length i with
  | none => rw [q] at e; cases e
  | some j =>
    rw [q] at e
    exact r.get e
theorem o2_ix : Op2 mg (rIx mg.K) gIx := fun F H x y p q Q gd r1 r2 m => by
  unfold gIx at m
  split at m
  · split at m
    · rename_i l i _ p hp
      obtain ⟨a, vs, rfl, h1, h2⟩ := r1
      obtain ⟨v, e1, e2⟩ := h2.atI hp
      exact .inl ⟨a, vs, i, v, rfl, r2, SqL.of (gd.sub _ _ h1), e1, PostO.val m gd e2⟩
    · exact m.elim
  · split at m
    · rename_i l i _ p hp
      obtain ⟨a, vs, rfl, h1, h2⟩ := r1
      obtain ⟨v, e1, e2⟩ := h2.atI hp
      exact .inr (.inl ⟨a, vs, i, v, rfl, r2, SqT.of (gd.sub _ _ h1), e1, PostO.val m gd e2⟩)
    · exact m.elim
  · split at m
    · split at m
      · rename_i s i hl _ c hc
        exact .inr (.inr ⟨s, i, c, r1, r2, big_le hl, hc, PostO.val m gd rfl⟩)
      · exact m.elim
    · exact m.elim
  · exact m.elim
end
end Ev

/-! # Ev 9: peeks, slices, built-ins, methods of lists -/
namespace Ev
open PySem L2

/-! ### a peek: a scalar read off owned things -/
def isScal : PV → Bool
  | .non => true
  | .bl _ => true
  | .int _ => true
  | .str _ => true
  | _ => false
def frE (env : Env) : Env := env.map fun s => s.map fun o => .val (fz o)
def fPk (f : FE) : FE := fun env => (f (frE env)).bind fun x => match x.1 with
  | .val p => if isScal p = true then .ok (.val p, env) else .stuck
  | _ => .stuck
theorem Rep.scal {mg : Gm} {F F' : Hp} {p : PV} {v : V} (h : isScal p = true) (r : Rep mg F p v) : Rep mg F' p v := by
  cases p with
  | non => exact r
  | bl _ => exact r
  | int _ => exact r
  | str _ => exact r
  | _ => cases h
theorem REnv.frz {mg : Gm} {F H G : Hp} (e : ∀ a o, F a = some o → G a = some o) : ∀ {env : Env} {σ : L2.St} {A : List Addr}, (∀ a ∈ A, ∀ u, H a = some u → G a = some u) → REnv mg F H env σ A → REnv mg G H (frE env) σ []
  | [], _, _, k, h => ⟨h.1, rfl⟩
  | none :: l, _, _, k, h => by
    obtain ⟨s, σ', rfl, h2⟩ := h
    exact ⟨s, σ', rfl, REnv.frz e k h2⟩
  | some o :: l, _, _, k, h => by
    obtain ⟨v, vs', A1, A2, rfl, rfl, h2, h3⟩ := h
    exact ⟨v, vs', [], [], rfl, rfl, ⟨rfl, h2.ice e fun b hb => k b (List.mem_append_left _ hb)⟩, REnv.frz e (fun b hb => k b (List.mem_append_right _ hb)) h3⟩
section
variable {X : Cx} {W : WX}
theorem je_pk {e : Expr} {f : FE} (h : JE X W e f) : JE X W e (fPk f) := PE.imp h fun σ H Q h => by
  obtain ⟨F, A, env, gd, re, m⟩ := h
  have g0 : Good F (A ++ []) H := by rw [List.append_nil]; exact gd
  obtain ⟨g1, s1⟩ := g0.ice
  have fin : ∀ {F' H' : Hp}, Step (ice F H A) [] H F' [] H' → Good F' [] H' → Good F A H' ∧ Step F A H F A H' ∧ REnv X.gm F H' env σ A := fun {F' H'} s g' => by
    have kp : ∀ a ∈ A, ∀ o, H a = some o → H' a = some o := fun a ha o e => g'.sub a o (s.ext a o (by rw [ice_in ha]; exact e))
    have kf : ∀ a o, F a = some o → H' a = some o := fun a o e => g'.sub a o (s.ext a o (ice_ext gd.sub a o e))
    refine ⟨⟨kf, gd.nd, gd.dis, fun a ha => s.stay a (gd.tr a ha)⟩, ⟨fun _ _ z => z, fun a o e _ => s.frame a o e (by simp), fun a x y => absurd y x, fun a ha => .inl ha, s.stay⟩, re.up (fun _ _ z => z) kp⟩
  refine ⟨ice F H A, [], frE env, g1, re.frz (ice_ext gd.sub) fun a ha u e => by rw [ice_in ha]; exact e, (Run.bind m).imp (fun x hx F1 B1 A1 H1 v s g r ro => ?_) fun c fs hq F' H' C d s g' ec xd => ?_⟩
  · obtain ⟨o, env1⟩ := x
    cases o with
    | val p =>
      dsimp only at hx
      split at hx
      · rename_i hs
        obtain ⟨z1, z2, z3⟩ := fin (s.less (A2 := []) fun a ha => nomatch ha) (g.sl (List.nil_sublist _))
        exact hx F [] A H1 v z2 z1 z3 ⟨rfl, ro.2.scal hs⟩
      · exact hx.elim
    | _ => exact hx.elim
  · refine hq F' H' C d ⟨fun a o e => s.ext a o (ice_ext gd.sub a o e), fun a o e n => s.frame a o e (by simp), fun a x y => ?_, fun a ha => (nomatch ha), s.stay⟩ g' ec xd
    by_cases ha : a ∈ A
    · exact .inl ha
    · exact (s.newF a x (by rw [ice_out ha]; exact y)).imp (fun z => nomatch z) id
end

/-! ### slices -/
abbrev FP := Env → Res (Option Int × Env)
def fP0 : FP := fun env => .ok (none, env)
def fP1 (f : FE) : FP := fun env => (f env).bind fun x => match x.1 with
  | .val (.int i) => .ok (some i, x.2)
  | _ => .stuck
def tP (mg : Gm) (W : WX) (f : FP) : TO := fun σ H Q => ∃ F A env, Good F A H ∧ REnv mg F H env σ A ∧ Run (f env) (fun x => ∀ F' A' H', Step F A H F' A' H' → Good F' A' H' → REnv mg F' H' x.2 σ A' → Q x.1 H') (PostX mg W F A H σ)
abbrev JP (X : Cx) (W : WX) (e : Option Expr) (f : FP) : Prop := PO X e (tP X.gm W f)
theorem PO.imp {X : Cx} {e : Option Expr} {t t' : TO} (h : PO X e t) (k : ∀ σ H Q, t' σ H Q → t σ H Q) : PO X e t' := ⟨fun pins s σ H Q I w => h.run pins s σ H Q I (k _ _ _ w)⟩
def cutP (xs : List PV) (lo hi : Option Int) : List PV := (xs.drop (HT.sIx xs.length 0 lo)).take (HT.sIx xs.length xs.length hi - HT.sIx xs.length 0 lo)
def gSl (p : PV) (lo hi : Option Int) : Res OV := match p with
  | .lst l => .ok (.lst ((cutP l lo hi).map .val))
  | .tup l => ov (.tup (cutP l lo hi))
  | .str s => if s.length ≤ 10000000 then ov (.str (cutS s lo hi)) else .stuck
  | _ => .stuck
def fSl (f : FE) (lo hi : FP) : FE := fun env => (f env).bind fun x => (vl x.1).bind fun p => (lo x.2).bind fun y => (hi y.2).bind fun z => (gSl p y.1 z.1).bind fun o => .ok (o, z.2)
def rSl (K : PySem.W.Frag) : V → Option Int → Option Int → Hp → VK → Prop := fun x lo hi H Q => rSlL K x lo hi H Q ∨ rSlA K x lo hi H Q ∨ rSlS x lo hi H Q
section
variable {X : Cx} {W : WX} {mg : Gm} {F H : Hp}
theorem sl_all : SlR X (rSl X.K) := sl_list.or (sl_tupA.or sl_str)
theorem jp_0 : JP X W none fP0 := PO.imp po_none fun σ H Q ⟨F, A, env, g, re, m⟩ => m F A H Step.refl g re
theorem jp_1 {e : Expr} {f : FE} (h : JE X W e f) : JP X W (some e) (fP1 f) := PO.imp (po_some h) fun σ H Q ⟨F, A, env, g, re, m⟩ => by
  refine ⟨F, A, env, g, re, (Run.bind m).imp (fun x hx F1 B1 A1 H1 v s1 g1 r1 o1 => ?_) fun _ _ h => h⟩
  obtain ⟨o, env1⟩ := x
  dsimp only at hx o1 r1
  split at hx
  · obtain ⟨rfl, rp⟩ := o1
    exact ⟨_, rp, hx F1 A1 H1 s1 g1 r1⟩
  · exact hx.elim
theorem Reps.cut {ps : List PV} {vs : List V} (r : Reps mg F ps vs) (lo hi : Option Int) : Reps mg F (cutP ps lo hi) (cutV vs lo hi) := by
  unfold cutP cutV
  rw [r.len]
  exact (r.drop _).take _
theorem cutP_whole {ps : List PV} {lo hi : Option Int} (h : HT.sIx ps.length 0 lo = 0 ∧ HT.sIx ps.length ps.length hi = ps.length) : cutP ps lo hi = ps := by
  unfold cutP
  rw [h.1, h.2]
  simp
theorem gSl_ok {p : PV} {x : V} {lo hi : Option Int} {Q : VK} (gd : Good F [] H) (r : Rep mg F p x) (m : Run (gSl p lo hi) (PostO mg F H Q) (fun _ _ => False)) : rSl mg.K x lo hi H Q := by
  unfold gSl at m
  split at m
  · obtain ⟨a, vs, rfl, h1, h2⟩ := r
    exact .inl ⟨a, vs, rfl, SqL.of (gd.sub _ _ h1), fun p hp => PostO.lst m gd hp (h2.cut lo hi)⟩
  · rename_i l
    obtain ⟨a, vs, rfl, h1, h2⟩ := r
    refine .inr (.inl ⟨a, vs, rfl, SqT.of (gd.sub _ _ h1), fun hw => ?_, fun _ p hp => PostO.tup m gd hp (h2.cut lo hi)⟩)
    refine PostO.val m gd ?_
    rw [h2.len] at hw
    rw [cutP_whole hw]
    exact ⟨a, vs, rfl, h1, h2⟩
  · split at m
    · exact .inr (.inr ⟨_, r, big_le (by assumption), PostO.val m gd rfl⟩)
    · exact m.elim
  · exact m.elim
theorem gSl_calm {p : PV} {lo hi : Option Int} {c : Str} {fs : List (Str × PV)} : gSl p lo hi ≠ .exc c fs := fun h => by
  unfold gSl at h
  split at h
  · cases h
  · cases h
  · split at h <;> cases h
  · cases h
theorem je_sl {e : Expr} {lo hi : Option Expr} {p2 pos : Pos} {f : FE} {l h : FP} (he : JE X W e f) (hl : JP X W lo l) (hh : JP X W hi h) : JE X W (.Subscript e (.Slice lo hi none p2) pos) (fSl f l h) := (pe_slice sl_all he hl hh).imp fun σ H Q m => by
  obtain ⟨F, A, env, gd, re, m⟩ := m
  refine ⟨F, A, env, gd, re, (Run.bind m).imp (fun x hx F1 B1 A1 H1 v s1 g1 r1 o1 => ?_) fun _ _ h => h⟩
  obtain ⟨p, _, rp, rfl, hx2⟩ := vl_of hx o1
  refine ⟨F1, A1, x.2, g1, r1, (Run.bind hx2).imp (fun y hy F2 A2 H2 s2 g2 r2 => ?_) fun c fs hq => PostX.step hq s1 fun _ z => z⟩
  refine ⟨F2, A2, y.2, g2, r2, (Run.bind hy).imp (fun z hz F3 A3 H3 s3 g3 r3 => ?_) fun c fs hq => PostX.step hq (s1.trans s2) fun _ z => z⟩
  exact gSl_ok (good_nil g3) ((rp.up s2.ext).up s3.ext) ((run_no (Run.bind hz) fun c fs => gSl_calm).imp (fun o q => post_op q (s1.trans (s2.trans s3)) g3 r3) fun _ _ h => h)
/-- xs[::-1] -/
def gRv : PV → Res OV
  | .lst l => .ok (.lst (l.reverse.map .val))
  | _ => .stuck

/-! ### built-ins -/
def fCB (g : List PV → Res OV) (fa : FA) : FE := fun env => (fa env).bind fun x => (vls x.1).bind fun ps => (g ps).bind fun o => .ok (o, x.2)
theorem tE_CB {r : List V → Hp → VK → Prop} {g : List PV → Res OV} {sl : List (Option Nat)} {fa : FA} (ho : OpN mg r g) (hc : CalmN g) {σ : L2.St} {H : Hp} {Q : VK} (h : tE mg W (fCB g fa) σ H Q) : tCB r (tA mg W sl fa) σ H Q := by
  obtain ⟨F, A, env, gd, re, m⟩ := h
  refine ⟨F, A, env, gd, re, (Run.bind m).imp (fun x hx F1 B1 A1 H1 vs s1 g1 r1 o1 _ => ?_) fun _ _ h => h⟩
  obtain ⟨ps, rps, rfl, hx2⟩ := vls_of hx o1
  exact ho F1 H1 vs ps Q (good_nil g1) rps ((run_no (Run.bind hx2) (hc ps)).imp (fun o q => post_op q s1 g1 r1) fun _ _ h => h)
theorem je_cb {x : Str} {id : String} {p pos : Pos} {e : Expr} {es : List Expr} {r : List V → Hp → VK → Prop} {g : List PV → Res OV} {sl : List (Option Nat)} {fa : FA} (hc : CallR X (.builtin id) r) (ho : OpN X.gm r g) (hk : CalmN g) (hg : Gl X x) (hm : X.mg x = none) (hv : bootBuiltins x = some (.builtin id)) (ha : JA X W (e :: es) sl fa) (hn : x ≠ "__name__" := by decide) (hdb : (x == ("__debug__" : Str)) = false := by decide)
    (he : starEach (e :: es) X.env = (false, eval e X.env) :: starEach es X.env := by rfl) (hpl : (backTo pos (starEach es X.env)).any (·.1) = false := by rfl) : JE X W (.Call (.Name x p) (e :: es) [] pos) (fCB g fa) :=
  PE.imp (pe_callB hc hg hm hv ha hn hdb he hpl) fun _ _ _ h => tE_CB ho hk h
theorem je_cbT {x : Str} {T : String} {p pos : Pos} {e : Expr} {es : List Expr} {r : List V → Hp → VK → Prop} {g : List PV → Res OV} {sl : List (Option Nat)} {fa : FA} (hc : CallR X (.type T) r) (ho : OpN X.gm r g) (hk : CalmN g) (hg : Gl X x) (hm : X.mg x = none) (hv : bootBuiltins x = some (.type T)) (ha : JA X W (e :: es) sl fa) (hn : x ≠ "__name__" := by decide) (hdb : (x == ("__debug__" : Str)) = false := by decide)
    (he : starEach (e :: es) X.env = (false, eval e X.env) :: starEach es X.env := by rfl) (hpl : (backTo pos (starEach es X.env)).any (·.1) = false := by rfl) : JE X W (.Call (.Name x p) (e :: es) [] pos) (fCB g fa) :=
  PE.imp (pe_callTy hc hg hm hv ha hn hdb he hpl) fun _ _ _ h => tE_CB ho hk h
/-! len -/
def gLen : List PV → Res OV
  | [.lst l] => ov (.int l.length)
  | [.tup l] => ov (.int l.length)
  | [.str s] => if s.length ≤ 10000000 then ov (.int s.length) else .stuck
  | [.dct l] => ov (.int l.length)
  | _ => .stuck
theorem calm_len : CalmN gLen := fun p c fs h => by
  unfold gLen at h
  split at h
  · cases h
  · cases h
  · split at h <;> cases h
  · cases h
  · cases h
theorem call_lenR : CallR X (.builtin "len") (fun xs H Q => ∃ a kvs, xs = [V.ref a] ∧ Rd H a (.dK kvs) ∧ Q (.int kvs.length) H) := by
  intro pins s σ H xs us Q I r h
  obtain ⟨a, kvs, rfl, hd, q⟩ := h
  obtain ⟨u, rfl, ru⟩ := vals1 r
  cases ru
  exact d_len I hd fun t s' I' => ⟨.int kvs.length, H, I', ⟨_, rfl⟩, q⟩
def rLenA (K : PySem.W.Frag) : List V → Hp → VK → Prop := fun xs H Q => (∃ x n, xs = [x] ∧ LenV K x H n ∧ Q (.int n) H) ∨ ∃ a kvs, xs = [V.ref a] ∧ Rd H a (.dK kvs) ∧ Q (.int kvs.length) H
theorem cr_len : CallR X (.builtin "len") (rLenA X.K) := call_len.or call_lenR
theorem RepKs.len : ∀ {l : List (PV × PV)} {kvs : List (Key × V)}, RepKs mg F l kvs → kvs.length = l.length
  | [], _, h => by
    rw [show _ = [] from h]
    all_goals rfl
  | (k, p) :: l, _, h => by
    obtain ⟨q, v, kvs', rfl, _, _, h2⟩ := h
    rw [List.length_cons, List.length_cons, RepKs.len h2]
theorem Rd.sub (gd : Good F [] H) {a : Addr} {u : HO} (h : Rd F a u) : Rd H a u := Rd.up gd.sub h
theorem on_len : OpN mg (rLenA mg.K) gLen := fun F H xs ps Q gd r m => by
  unfold gLen at m
  split at m
  · obtain ⟨v, vs', rfl, ⟨a, ws, rfl, h1, h2⟩, rfl⟩ := r
    refine .inl ⟨_, ws.length, rfl, .inl ⟨ws, SqL.of (gd.sub _ _ h1), rfl⟩, ?_⟩
    rw [h2.len]
    exact PostO.val m gd rfl
  · obtain ⟨v, vs', rfl, ⟨a, ws, rfl, h1, h2⟩, rfl⟩ := r
    refine .inl ⟨_, ws.length, rfl, .inr ⟨ws, SqT.of (gd.sub _ _ h1), rfl⟩, ?_⟩
    rw [h2.len]
    exact PostO.val m gd rfl
  · split at m
    · obtain ⟨v, vs', rfl, h1, rfl⟩ := r
      rw [show v = _ from h1]
      exact .inl ⟨_, _, rfl, ⟨big_le (by assumption), rfl⟩, PostO.val m gd rfl⟩
    · exact m.elim
  · obtain ⟨v, vs', rfl, ⟨a, ws, rfl, h1, h2⟩, rfl⟩ := r
    refine .inr ⟨a, ws, rfl, Rd.sub gd h1, ?_⟩
    rw [h2.len]
    exact PostO.val m gd rfl
  · exact m.elim
/-! int -/
def gInt : List PV → Res OV
  | [.int i] => ov (.int i)
  | [.bl b] => ov (.int (if b then 1 else 0))
  | _ => .stuck
theorem calm_int : CalmN gInt := fun p c fs h => by
  unfold gInt at h
  split at h <;> cases h
theorem on_int : OpN mg (fun xs H Q => (∃ i, xs = [.int i] ∧ Q (.int i) H) ∨ ∃ k, xs = [.bl k] ∧ Q (.int (if k then 1 else 0)) H) gInt := fun F H xs ps Q gd r m => by
  unfold gInt at m
  split at m
  · obtain ⟨v, vs', rfl, h1, rfl⟩ := r
    rw [show v = _ from h1]
    exact .inl ⟨_, rfl, PostO.val m gd rfl⟩
  · obtain ⟨v, vs', rfl, h1, rfl⟩ := r
    rw [show v = _ from h1]
    exact .inr ⟨_, rfl, PostO.val m gd rfl⟩
  · exact m.elim
/-! list, tuple -/
theorem reps_ints (ns : List Int) : Reps mg F (ns.map .int) (ns.map V.int) := by
  induction ns with
  | nil => rfl
  | cons n r ih => exact ⟨_, _, rfl, rfl, ih⟩
theorem Reps.ints : ∀ {ns : List Int} {vs : List V}, Reps mg F (ns.map .int) vs → vs = ns.map V.int
  | [], _, h => h
  | n :: r, _, h => by
    obtain ⟨v, vs', rfl, h1, h2⟩ := h
    rw [show v = _ from h1, Reps.ints h2]
    rfl
def gList : List PV → Res OV
  | [.lst l] => .ok (.lst (l.map .val))
  | [.tup l] => .ok (.lst (l.map .val))
  | [.scr ns] => .ok (.lst (ns.map fun n => .val (.int n)))
  | _ => .stuck
theorem calm_list : CalmN gList := fun p c fs h => by
  unfold gList at h
  split at h <;> cases h
theorem on_list : OpN mg (fun xs H Q => ∃ p ys, xs = [.ref p] ∧ (SqL mg.K H p ys ∨ SqT mg.K H p ys) ∧ ∀ l, H l = none → Q (.ref l) (upd H l (.lst ys))) gList := fun F H xs ps Q gd r m => by
  unfold gList at m
  split at m
  · obtain ⟨v, vs', rfl, ⟨a, ws, rfl, h1, h2⟩, rfl⟩ := r
    exact ⟨a, ws, rfl, .inl (SqL.of (gd.sub _ _ h1)), fun l hl => PostO.lst m gd hl h2⟩
  · obtain ⟨v, vs', rfl, ⟨a, ws, rfl, h1, h2⟩, rfl⟩ := r
    exact ⟨a, ws, rfl, .inr (SqT.of (gd.sub _ _ h1)), fun l hl => PostO.lst m gd hl h2⟩
  · rename_i ns
    obtain ⟨v, vs', rfl, ⟨a, rfl, h1⟩, rfl⟩ := r
    refine ⟨a, _, rfl, .inl (SqL.up gd.sub h1), fun l hl => PostO.lst (mg := mg) (ps := ns.map .int) ?_ gd hl (reps_ints ns)⟩
    rw [List.map_map]
    exact m
  · exact m.elim
def gTuple : List PV → Res OV
  | [.lst l] => ov (.tup l)
  | [.tup l] => ov (.tup l)
  | _ => .stuck
theorem calm_tuple : CalmN gTuple := fun p c fs h => by
  unfold gTuple at h
  split at h <;> cases h
theorem on_tuple : OpN mg (fun xs H Q => ∃ p ys, xs = [.ref p] ∧ ((SqL mg.K H p ys ∧ ∀ l, H l = none → Q (.ref l) (upd H l (.tup ys))) ∨ (SqT mg.K H p ys ∧ Q (.ref p) H))) gTuple := fun F H xs ps Q gd r m => by
  unfold gTuple at m
  split at m
  · obtain ⟨v, vs', rfl, ⟨a, ws, rfl, h1, h2⟩, rfl⟩ := r
    exact ⟨a, ws, rfl, .inl ⟨SqL.of (gd.sub _ _ h1), fun l hl => PostO.tup m gd hl h2⟩⟩
  · obtain ⟨v, vs', rfl, ⟨a, ws, rfl, h1, h2⟩, rfl⟩ := r
    exact ⟨a, ws, rfl, .inr ⟨SqT.of (gd.sub _ _ h1), PostO.val m gd ⟨a, ws, rfl, h1, h2⟩⟩⟩
  · exact m.elim
/-! max, min, sum, sorted of ints -/
def intsOf : List PV → Option (List Int)
  | [] => some []
  | .int i :: l => (intsOf l).map (i :: ·)
  | _ => none
theorem intsOf_map (ns : List Int) : intsOf (ns.map .int) = some ns := by
  induction ns with
  | nil => rfl
  | cons n r ih =>
    show (intsOf (r.map .int)).map (n :: ·) = _
    rw [ih]
    rfl
theorem intsOf_ok : ∀ {l : List PV} {ns : List Int}, intsOf l = some ns → l = ns.map .int
  | [], _, h => by
    cases h
    rfl
  | p :: l, ns, h => by
    cases p with
    | int i =>
      have h' : (intsOf l).map (i :: ·) = some ns := h
      cases q : intsOf l with
      | none => rw [q] at h'; cases h'
      | some ms =>
        rw [q] at h'
        cases h'
        rw [intsOf_ok q]
        rfl
    | _ => cases h
def lmax : List Int → Int
  | [] => 0
  | [a] => a
  | a :: l => max a (lmax l)
def lmin : List Int → Int
  | [] => 0
  | [a] => a
  | a :: l => min a (lmin l)
theorem lmax_mem : ∀ {l : List Int}, l ≠ [] → lmax l ∈ l ∧ ∀ y ∈ l, y ≤ lmax l
  | [], h => absurd rfl h
  | [a], _ => ⟨List.mem_cons_self, fun y hy => by
    have : y = a := by simpa using hy
    rw [this]
    exact Int.le_refl a⟩
  | a :: b :: l, _ => by
    obtain ⟨h1, h2⟩ := lmax_mem (l := b :: l) (by simp)
    show max a (lmax (b :: l)) ∈ a :: b :: l ∧ ∀ y ∈ a :: b :: l, y ≤ max a (lmax (b :: l))
    refine ⟨?_, fun y hy => ?_⟩
    · by_cases q : a ≤ lmax (b :: l)
      · rw [Int.max_eq_right q]; exact List.mem_cons_of_mem _ h1
      · rw [Int.max_eq_left (by omega)]; exact List.mem_cons_self
    · rcases List.mem_cons.mp hy with z | z
      · rw [z]; exact Int.le_max_left _ _
      · exact Int.le_trans (h2 y z) (Int.le_max_right _ _)
theorem lmin_mem : ∀ {l : List Int}, l ≠ [] → lmin l ∈ l ∧ ∀ y ∈ l, lmin l ≤ y
  | [], h => absurd rfl h
  | [a], _ => ⟨List.mem_cons_self, fun y hy => by
    have : y = a := by simpa using hy
    rw [this]
    exact Int.le_refl a⟩
  | a :: b :: l, _ => by
    obtain ⟨h1, h2⟩ := lmin_mem (l := b :: l) (by simp)
    show min a (lmin (b :: l)) ∈ a :: b :: l ∧ ∀ y ∈ a :: b :: l, min a (lmin (b :: l)) ≤ y
    refine ⟨?_, fun y hy => ?_⟩
    · by_cases q : a ≤ lmin (b :: l)
      · rw [Int.min_eq_left q]; exact List.mem_cons_self
      · rw [Int.min_eq_right (by omega)]; exact List.mem_cons_of_mem _ h1
    · rcases List.mem_cons.mp hy with z | z
      · rw [z]; exact Int.min_le_left _ _
      · exact Int.le_trans (Int.min_le_right _ _) (h2 y z)
def gMax : List PV → Res OV
  | [.lst l] => (match intsOf l with
    | some (n :: ns) => ov (.int (lmax (n :: ns)))
    | _ => .stuck)
  | [.int i, .int j] => ov (.int (if j > i then j else i))
  | [.int i, .int j, .int k] => ov (.int (max i (max j k)))
  | _ => .stuck
def gMin : List PV → Res OV
  | [.lst l] => (match intsOf l with
    | some (n :: ns) => ov (.int (lmin (n :: ns)))
    | _ => .stuck)
  | [.int i, .int j] => ov (.int (if j < i then j else i))
  | [.int i, .int j, .int k] => ov (.int (min i (min j k)))
  | _ => .stuck
def gSum : List PV → Res OV
  | [.lst l] => (match intsOf l with
    | some ns => ov (.int ns.sum)
    | _ => .stuck)
  | _ => .stuck
def srt (ns : List Int) : List Int := ns.mergeSort fun a b => decide (a ≤ b)
theorem srt_perm (ns : List Int) : (srt ns).Perm ns := List.mergeSort_perm _ _
theorem srt_le (ns : List Int) : (srt ns).Pairwise (· ≤ ·) := by
  have h := List.pairwise_mergeSort (le := fun a b : Int => decide (a ≤ b)) (fun a b c h1 h2 => by
    simp only [decide_eq_true_eq] at h1 h2 ⊢
    omega) (fun a b => by
    simp only [Bool.or_eq_true, decide_eq_true_eq]
    omega) ns
  exact h.imp fun h => by simpa using h
theorem sorted_one : ∀ {l m : List Int}, l.Perm m → l.Pairwise (· ≤ ·) → m.Pairwise (· ≤ ·) → l = m := fun {l m} p h1 h2 =>
  List.Perm.eq_of_pairwise (le := (· ≤ ·)) (fun a b _ _ h1 h2 => Int.le_antisymm h1 h2) h1 h2 p
def gSorted : List PV → Res OV
  | [.lst l] => (match intsOf l with
    | some ns => .ok (.lst ((srt ns).map fun n => .val (.int n)))
    | _ => .stuck)
  | _ => .stuck
theorem calm_max : CalmN gMax := fun p c fs h => by
  unfold gMax at h
  split at h
  · split at h <;> cases h
  all_goals cases h
theorem calm_min : CalmN gMin := fun p c fs h => by
  unfold gMin at h
  split at h
  · split at h <;> cases h
  all_goals cases h
theorem calm_sum : CalmN gSum := fun p c fs h => by
  unfold gSum at h
  split at h
  · split at h <;> cases h
  all_goals cases h
theorem calm_sorted : CalmN gSorted := fun p c fs h => by
  unfold gSorted at h
  split at h
  · split at h <;> cases h
  all_goals cases h
theorem on_max1 : OpN mg (rMax mg.K) (fun ps => match ps with | [.lst l] => gMax [.lst l] | _ => .stuck) := fun F H xs ps Q gd r m => by
  dsimp only at m
  split at m
  · unfold gMax at m
    dsimp only at m
    split at m
    · rename_i l n ns e
      obtain ⟨v, vs', rfl, ⟨a, ws, rfl, h1, h2⟩, rfl⟩ := r
      rw [intsOf_ok e] at h2
      rw [h2.ints] at h1
      refine ⟨a, n :: ns, rfl, SqL.of (gd.sub _ _ h1), by simp, fun k hk hle => ?_⟩
      obtain ⟨q1, q2⟩ := lmax_mem (l := n :: ns) (by simp)
      rw [Int.le_antisymm (q2 k hk) (hle _ q1)]
      exact PostO.val m gd rfl
    · exact m.elim
  · exact m.elim
theorem on_max2 : OpN mg (fun xs H Q => ∃ i j, xs = [.int i, .int j] ∧ Q (.int (if j > i then j else i)) H) (fun ps => match ps with | [.int i, .int j] => gMax [.int i, .int j] | _ => .stuck) := fun F H xs ps Q gd r m => by
  dsimp only at m
  split at m
  · obtain ⟨v, vs', rfl, h1, v2, vs2, rfl, h2, rfl⟩ := r
    rw [show v = _ from h1, show v2 = _ from h2]
    exact ⟨_, _, rfl, PostO.val m gd rfl⟩
  · exact m.elim
theorem on_min2 : OpN mg (fun xs H Q => ∃ i j, xs = [.int i, .int j] ∧ Q (.int (if j < i then j else i)) H) (fun ps => match ps with | [.int i, .int j] => gMin [.int i, .int j] | _ => .stuck) := fun F H xs ps Q gd r m => by
  dsimp only at m
  split at m
  · obtain ⟨v, vs', rfl, h1, v2, vs2, rfl, h2, rfl⟩ := r
    rw [show v = _ from h1, show v2 = _ from h2]
    exact ⟨_, _, rfl, PostO.val m gd rfl⟩
  · exact m.elim
theorem on_min1 : OpN mg (rMin mg.K) (fun ps => match ps with | [.lst l] => gMin [.lst l] | _ => .stuck) := fun F H xs ps Q gd r m => by
  dsimp only at m
  split at m
  · unfold gMin at m
    dsimp only at m
    split at m
    · rename_i l n ns e
      obtain ⟨v, vs', rfl, ⟨a, ws, rfl, h1, h2⟩, rfl⟩ := r
      rw [intsOf_ok e] at h2
      rw [h2.ints] at h1
      refine ⟨a, n :: ns, rfl, SqL.of (gd.sub _ _ h1), by simp, fun k hk hle => ?_⟩
      obtain ⟨q1, q2⟩ := lmin_mem (l := n :: ns) (by simp)
      rw [Int.le_antisymm (hle _ q1) (q2 k hk)]
      exact PostO.val m gd rfl
    · exact m.elim
  · exact m.elim
theorem on_sum : OpN mg (rSum mg.K) gSum := fun F H xs ps Q gd r m => by
  unfold gSum at m
  split at m
  · split at m
    · rename_i l _ ns e
      obtain ⟨v, vs', rfl, ⟨a, ws, rfl, h1, h2⟩, rfl⟩ := r
      rw [intsOf_ok e] at h2
      rw [h2.ints] at h1
      exact ⟨a, ns, rfl, SqL.of (gd.sub _ _ h1), PostO.val m gd rfl⟩
    · exact m.elim
  · exact m.elim
theorem on_sortedI : OpN mg (rSortedI mg.K) gSorted := fun F H xs ps Q gd r m => by
  unfold gSorted at m
  split at m
  · split at m
    · rename_i l _ ns e
      obtain ⟨v, vs', rfl, ⟨a, ws, rfl, h1, h2⟩, rfl⟩ := r
      rw [intsOf_ok e] at h2
      rw [h2.ints] at h1
      refine ⟨a, ns, rfl, SqL.of (gd.sub _ _ h1), fun ns' p hp hs hn => ?_⟩
      have e2 : ns' = srt ns := sorted_one (hp.trans (srt_perm ns).symm) hs (srt_le ns)
      subst e2
      refine PostO.lst (mg := mg) (ps := (srt ns).map .int) ?_ gd hn (reps_ints _)
      rw [List.map_map]
      exact m
    · exact m.elim
  · exact m.elim
/-! isinstance with a built-in type -/
def tyN : PV → Option String
  | .non => some "NoneType"
  | .bl _ => some "bool"
  | .int _ => some "int"
  | .str _ => some "str"
  | .tup _ => some "tuple"
  | .lst _ => some "list"
  | .dct _ => some "dict"
  | _ => none
def isT (T : String) (p : PV) : Res OV := match tyN p with
  | some n => (match kitB n T with
    | some b => ov (.bl b)
    | none => .stuck)
  | none => .stuck
def fIsi (T : String) (f : FE) : FE := fO1 (isT T) f
theorem calm_isT {T : String} : Calm1 (isT T) := fun p c fs h => by
  unfold isT at h
  split at h
  · split at h <;> cases h
  · cases h
theorem tyX_of {K : PySem.W.Frag} {p : PV} {v : V} {n : String} (gd : Good F [] H) (r : Rep mg F p v) (h : tyN p = some n) : TyX K H v (.type n) := by
  cases p with
  | non => cases h; rw [show v = _ from r]; exact .base .non
  | bl _ => cases h; rw [show v = _ from r]; exact .base (.bl _)
  | int _ => cases h; rw [show v = _ from r]; exact .base (.int _)
  | str _ => cases h; rw [show v = _ from r]; exact .base (.str _)
  | tup _ => cases h; obtain ⟨a, vs, rfl, h1, _⟩ := r; exact .base (.tup (gd.sub _ _ h1))
  | lst _ => cases h; obtain ⟨a, vs, rfl, h1, _⟩ := r; exact .base (.lst (gd.sub _ _ h1))
  | dct _ =>
    cases h
    obtain ⟨a, vs, rfl, h1 | ⟨o, h1⟩, _⟩ := r
    · exact .base (.dK (gd.sub _ _ h1))
    · exact .fDict (gd.sub _ _ h1)
  | ins _ _ => cases h
  | scr _ => cases h
  | dtt _ => cases h
theorem je_isi {a : Expr} {T : Str} {Tn : String} {p p2 pos : Pos} {f : FE} (hg : Gl X "isinstance") (hm : X.mg "isinstance" = none) (hgT : Gl X T) (hmT : X.mg T = none) (hvT : bootBuiltins T = some (.type Tn)) (ha : JE X W a f) (hnT : T ≠ "__name__" := by decide) (hdT : (T == ("__debug__" : Str)) = false := by decide)
    (h1 : starEach [a, .Name T p2] X.env = (false, eval a X.env) :: starEach [.Name T p2] X.env := by rfl) (h2 : starEach [.Name T p2] X.env = (false, eval (.Name T p2) X.env) :: starEach [] X.env := by rfl) (hpl : (backTo pos (starEach [.Name T p2] X.env)).any (·.1) = false := by rfl) :
    JE X W (.Call (.Name "isinstance" p) [a, .Name T p2] [] pos) (fIsi Tn f) :=
  PE.imp (pe_callB (t := tCons (tE X.gm W f) (tCons (tC (.ty Tn)) tNil)) call_isi hg hm (by decide +kernel) (pa_cons ha (pa_cons (pe_bltn (v := .ty Tn) hgT hmT hvT rfl hnT hdT) pa_nil h2) h1) (by decide) (by decide) h1 hpl) fun σ H Q h => by
    have h3 := tE_O1 (r := fun x H Q => rIsi X.K [x, .ty Tn] H Q) (mg := X.gm) (g := isT Tn) (fun F H x p Q gd r m => by
      unfold isT at m
      split at m
      · rename_i n hn
        split at m
        · rename_i b hb
          exact ⟨x, .ty Tn, .type n, .type Tn, b, rfl, .ty Tn, tyX_of gd r hn, kit_ty hb, PostO.val m gd rfl⟩
        · exact m.elim
      · exact m.elim) calm_isT h
    exact h3
end
end Ev

/-! # Ev 10: changes of owned lists and dicts -/
namespace Ev
open PySem L2

section
variable {mg : Gm} {F H : Hp} {σ : L2.St}
theorem Good.mem {A B : List Addr} (g : Good F A H) (nd : B.Nodup) (h : ∀ b ∈ B, b ∈ A) : Good F B H := ⟨g.sub, nd, fun a ha => g.dis a (h a ha), fun a ha => g.tr a (h a ha)⟩
/-- the owned object of slot i is written; D: what was taken out of it -/
theorem slot_write {env : Env} {A A1 C : List Addr} {i : Nat} {a : Addr} (g : Good F (C ++ A) H) {As : List Addr} (re1 : REnv mg F H (env.set i none) σ A1) (pm : A.Perm ((a :: As) ++ A1)) (hi : i < env.length) (hv : σ[i]? = some (some (.ref a)))
    (u : HO) (o' : OV) (As' D : List Addr) (nd : (As' ++ D).Nodup) (sb : ∀ b ∈ As' ++ D, b ∈ As ++ C)
    (r' : ∀ H' : Hp, H' a = some u → (∀ b ∈ As', ∀ w, H b = some w → H' b = some w) → RepO mg F H' o' (.ref a) (a :: As')) :
    ∃ A', REnv mg F (upd H a u) (env.set i (some o')) σ A' ∧ Good F (D ++ A') (upd H a u) ∧ Step F (C ++ A) H F (D ++ A') (upd H a u) ∧ ∀ b ∈ D, ∀ w, H b = some w → upd H a u b = some w := by
  -- everything: a, As, C, A1
  have pm2 : (C ++ A).Perm (a :: ((As ++ C) ++ A1)) := by
    refine (List.Perm.append_left C pm).trans ?_
    refine (List.perm_append_comm_assoc C (a :: As) A1).trans ?_
    show (a :: (As ++ (C ++ A1))).Perm (a :: ((As ++ C) ++ A1))
    rw [List.append_assoc]
  have g2 := g.perm pm2
  have na : ∀ b ∈ (As ++ C) ++ A1, b ≠ a := fun b hb z => (List.nodup_cons.mp g2.nd).1 (z ▸ hb)
  have gn := (List.nodup_cons.mp g2.nd).2
  have dj := (List.nodup_append.mp gn).2.2
  have g3 : Good F (a :: ((As' ++ D) ++ A1)) H := g2.mem (List.nodup_cons.mpr ⟨fun z => by
      rcases List.mem_append.mp z with w | w
      · exact na a (List.mem_append_left _ (sb a w)) rfl
      · exact na a (List.mem_append_right _ w) rfl, List.nodup_append.mpr ⟨nd, (List.nodup_append.mp gn).2.1, fun x hx y hy => dj x (sb x hx) y hy⟩⟩) fun b hb => by
    rcases List.mem_cons.mp hb with z | z
    · rw [z]; exact List.mem_cons_self
    · rcases List.mem_append.mp z with w | w
      · exact List.mem_cons_of_mem _ (List.mem_append_left _ (sb b w))
      · exact List.mem_cons_of_mem _ (List.mem_append_right _ w)
  obtain ⟨g4, s4, k4⟩ := upd_good (o := u) g3
  have rr := r' (upd H a u) upd_same fun b hb w hw => k4 b (List.mem_append_left _ (List.mem_append_left _ hb)) w hw
  obtain ⟨A2, r2, pmA⟩ := REnv.fill (i := i) (o := o') (v := .ref a) (re1.up (fun _ _ z => z) fun b hb => k4 b (List.mem_append_right _ hb)) (by rw [List.getElem?_set_self hi]) rr
  rw [List.set_set] at r2
  have es : σ.set i (some (.ref a)) = σ := by
    rw [List.getElem?_eq_some_iff] at hv
    obtain ⟨h1, h2⟩ := hv
    rw [← h2]
    exact List.set_getElem_self h1
  rw [es] at r2
  have pmD : (a :: ((As' ++ D) ++ A1)).Perm (D ++ A2) := by
    refine List.Perm.trans ?_ (List.Perm.append_left D pmA.symm)
    refine List.Perm.trans ?_ (List.perm_append_comm_assoc (a :: As') D A1)
    show (a :: ((As' ++ D) ++ A1)).Perm (a :: (As' ++ (D ++ A1)))
    rw [List.append_assoc]
  refine ⟨A2, r2, g4.perm pmD, (s4.more fun b hb => ?_).less fun b hb => pmD.mem_iff.mpr hb, fun b hb => k4 b (List.mem_append_left _ (List.mem_append_right _ hb))⟩
  rcases List.mem_cons.mp hb with z | z
  · rw [z]; exact pm2.mem_iff.mpr List.mem_cons_self
  · refine pm2.mem_iff.mpr (List.mem_cons_of_mem _ ?_)
    rcases List.mem_append.mp z with w | w
    · exact List.mem_append_left _ (sb b w)
    · exact List.mem_append_right _ w
/-- an owned list in a slot -/
theorem slot_lst {env : Env} {A C : List Addr} {i : Nat} {l : List OV} (g : Good F (C ++ A) H) (re : REnv mg F H env σ A) (e : env[i]? = some (some (.lst l))) :
    ∃ a vs As, σ[i]? = some (some (.ref a)) ∧ H a = some (.lst vs) ∧ RepOs mg F H l vs As ∧ (As ++ C).Nodup ∧ (∀ b ∈ As ++ C, b ∈ C ++ A) ∧ ∀ l' vs' As' D, RepOs mg F H l' vs' As' → (As' ++ D).Nodup → (∀ b ∈ As' ++ D, b ∈ As ++ C) →
      ∃ A', REnv mg F (upd H a (.lst vs')) (env.set i (some (.lst l'))) σ A' ∧ Good F (D ++ A') (upd H a (.lst vs')) ∧ Step F (C ++ A) H F (D ++ A') (upd H a (.lst vs')) ∧ ∀ b ∈ D, ∀ w, H b = some w → upd H a (.lst vs') b = some w := by
  obtain ⟨v, B, A1, e1, r1, re1, pm⟩ := re.take e
  obtain ⟨a, vs, As, rfl, h1, rfl, h2⟩ := id r1
  have pm2 : (C ++ A).Perm (a :: ((As ++ C) ++ A1)) := by
    refine (List.Perm.append_left C pm).trans ?_
    refine (List.perm_append_comm_assoc C (a :: As) A1).trans ?_
    show (a :: (As ++ (C ++ A1))).Perm (a :: ((As ++ C) ++ A1))
    rw [List.append_assoc]
  have g2 := g.perm pm2
  refine ⟨a, vs, As, e1, h1, h2, (List.nodup_append.mp (List.nodup_cons.mp g2.nd).2).1, fun b hb => pm2.mem_iff.mpr (List.mem_cons_of_mem _ (List.mem_append_left _ hb)), fun l' vs' As' D r' nd sb => ?_⟩
  exact slot_write g re1 pm (List.getElem?_eq_some_iff.mp e).1 e1 (.lst vs') (.lst l') As' D nd sb fun H' ha k => ⟨a, vs', As', rfl, ha, rfl, r'.up (fun _ _ z => z) k⟩
/-- an owned dict in a slot -/
theorem slot_dct {env : Env} {A C : List Addr} {i : Nat} {l : List (PV × OV)} (g : Good F (C ++ A) H) (re : REnv mg F H env σ A) (e : env[i]? = some (some (.dct l))) :
    ∃ a kvs As, σ[i]? = some (some (.ref a)) ∧ H a = some (.dK kvs) ∧ RepOKs mg F H l kvs As ∧ (As ++ C).Nodup ∧ (∀ b ∈ As ++ C, b ∈ C ++ A) ∧ ∀ l' kvs' As' D, RepOKs mg F H l' kvs' As' → (As' ++ D).Nodup → (∀ b ∈ As' ++ D, b ∈ As ++ C) →
      ∃ A', REnv mg F (upd H a (.dK kvs')) (env.set i (some (.dct l'))) σ A' ∧ Good F (D ++ A') (upd H a (.dK kvs')) ∧ Step F (C ++ A) H F (D ++ A') (upd H a (.dK kvs')) ∧ ∀ b ∈ D, ∀ w, H b = some w → upd H a (.dK kvs') b = some w := by
  obtain ⟨v, B, A1, e1, r1, re1, pm⟩ := re.take e
  obtain ⟨a, vs, As, rfl, h1, rfl, h2⟩ := id r1
  have pm2 : (C ++ A).Perm (a :: ((As ++ C) ++ A1)) := by
    refine (List.Perm.append_left C pm).trans ?_
    refine (List.perm_append_comm_assoc C (a :: As) A1).trans ?_
    show (a :: (As ++ (C ++ A1))).Perm (a :: ((As ++ C) ++ A1))
    rw [List.append_assoc]
  have g2 := g.perm pm2
  refine ⟨a, vs, As, e1, h1, h2, (List.nodup_append.mp (List.nodup_cons.mp g2.nd).2).1, fun b hb => pm2.mem_iff.mpr (List.mem_cons_of_mem _ (List.mem_append_left _ hb)), fun l' vs' As' D r' nd sb => ?_⟩
  exact slot_write g re1 pm (List.getElem?_eq_some_iff.mp e).1 e1 (.dK vs') (.dct l') As' D nd sb fun H' ha k => ⟨a, vs', As', rfl, ha, rfl, r'.up (fun _ _ z => z) k⟩
/-- an owned instance in a slot -/
theorem slot_ins {env : Env} {A C : List Addr} {i : Nat} {c : Str} {fs : List (Str × OV)} (g : Good F (C ++ A) H) (re : REnv mg F H env σ A) (e : env[i]? = some (some (.ins c fs))) :
    ∃ a cC dx gs As, σ[i]? = some (some (.ref a)) ∧ cls mg.mg c = some cC ∧ H a = some (.ins cC dx gs) ∧ RepOFs mg F H fs gs As ∧ (As ++ C).Nodup ∧ (∀ b ∈ As ++ C, b ∈ C ++ A) ∧ ∀ fs' gs' As' D, RepOFs mg F H fs' gs' As' → (As' ++ D).Nodup → (∀ b ∈ As' ++ D, b ∈ As ++ C) →
      ∃ A', REnv mg F (upd H a (.ins cC dx gs')) (env.set i (some (.ins c fs'))) σ A' ∧ Good F (D ++ A') (upd H a (.ins cC dx gs')) ∧ Step F (C ++ A) H F (D ++ A') (upd H a (.ins cC dx gs')) ∧ ∀ b ∈ D, ∀ w, H b = some w → upd H a (.ins cC dx gs') b = some w := by
  obtain ⟨v, B, A1, e1, r1, re1, pm⟩ := re.take e
  obtain ⟨a, cC, dx, gs, As, rfl, hc, h1, hd, rfl, h2⟩ := id r1
  have pm2 : (C ++ A).Perm (a :: (((dx :: As) ++ C) ++ A1)) := by
    refine (List.Perm.append_left C pm).trans ?_
    refine (List.perm_append_comm_assoc C (a :: dx :: As) A1).trans ?_
    show (a :: dx :: (As ++ (C ++ A1))).Perm (a :: (dx :: ((As ++ C) ++ A1)))
    rw [List.append_assoc]
  have g2 := g.perm pm2
  have nn := (List.nodup_append.mp (List.nodup_cons.mp g2.nd).2).1
  refine ⟨a, cC, dx, gs, As, e1, hc, h1, h2, (List.nodup_cons.mp nn).2, fun b hb => pm2.mem_iff.mpr (List.mem_cons_of_mem _ (List.mem_append_left _ (List.mem_cons_of_mem _ hb))), fun fs' gs' As' D r' nd sb => ?_⟩
  exact slot_write (As := dx :: As) g re1 pm (List.getElem?_eq_some_iff.mp e).1 e1 (.ins cC dx gs') (.ins c fs') (dx :: As') D (List.nodup_cons.mpr ⟨fun z => (List.nodup_cons.mp nn).1 (sb dx z), nd⟩) (fun b hb => by
    rcases List.mem_cons.mp hb with z | z
    · rw [z]; exact List.mem_cons_self
    · exact List.mem_cons_of_mem _ (sb b z)) fun H' ha k => ⟨a, cC, dx, gs', As', rfl, hc, ha, k dx List.mem_cons_self _ hd, rfl, r'.up (fun _ _ z => z) fun b hb => k b (List.mem_cons_of_mem _ hb)⟩
end

/-! ### methods of a list that a slot owns -/
def isL (env : Env) (i : Nat) : Bool := match env[i]? with
  | some (some (.lst _)) => true
  | _ => false
def fApp (i : Nat) (f : FE) : FE := fun env => if isL env i = true then (f env).bind fun x => match x.2[i]? with
    | some (some (.lst l)) => if l.length ≤ 10000000 then .ok (.val .non, x.2.set i (some (.lst (l ++ [x.1])))) else .stuck
    | _ => .stuck
  else .stuck
def fPop (i : Nat) : FE := fun env => match env[i]? with
  | some (some (.lst l)) => (match l.getLast? with
    | some o => .ok (o, env.set i (some (.lst l.dropLast)))
    | none => .stuck)
  | _ => .stuck
def fRev (i : Nat) : FE := fun env => match env[i]? with
  | some (some (.lst l)) => .ok (.val .non, env.set i (some (.lst l.reverse)))
  | _ => .stuck
def fExt (i : Nat) (f : FE) : FE := fun env => if isL env i = true then (f env).bind fun x => match x.1, x.2[i]? with
    | .val (.lst qs), some (some (.lst l)) => if l.length + qs.length ≤ 10000000 then .ok (.val .non, x.2.set i (some (.lst (l ++ qs.map .val)))) else .stuck
    | _, _ => .stuck
  else .stuck
section
variable {X : Cx} {W : WX}
theorem isL_ty {mg : Gm} {F H : Hp} {A : List Addr} {σ : L2.St} {env : Env} {i : Nat} (g : Good F A H) (re : REnv mg F H env σ A) (h : isL env i = true) : ∃ a, σ[i]? = some (some (.ref a)) ∧ tyV mg.K "list" (.ref a) H := by
  unfold isL at h
  split at h
  · rename_i l e
    obtain ⟨a, vs, As, e1, h1, _⟩ := slot_lst (C := []) (by exact g) re e
    exact ⟨a, e1, .inl ⟨rfl, vs, SqL.of h1⟩⟩
  · cases h
theorem je_app {o e : Expr} {apos cpos : Pos} {i : Nat} {f : FE} (ho : PE X o (tVar i)) (he : JE X W e f)
    (hbase : attributeBase o "append" X.env (eval o X.env) = eval o X.env := by rfl)
    (hfew : ((backTo cpos (starEach [e] X.env)).all (fun x => !x.1) && (backToKw cpos (keywordEach [] X.env)).all (fun x => x.1.isSome)
      && decide (([e] : List Expr).length + ([] : List Keyword).length + (if ([] : List Keyword).isEmpty then 0 else 1) < 30)) = true := by rfl)
    (hline : (apos.endLine == cpos.line) = true := by rfl) (hs : starEach [e] X.env = (false, eval e X.env) :: starEach [] X.env := by rfl) (hplain : (backTo cpos (starEach [] X.env)).any (·.1) = false := by rfl) :
    JE X W (.Call (.Attribute o "append" apos) [e] [] cpos) (fApp i f) :=
  PE.imp (pe_bm PySem.F.plainAttrs_list PySem.F.slot_list_append PySem.F.type_list_append mt_append ho (pa_cons he pa_nil hs) hbase hfew hline hs hplain) fun σ H Q h => by
    obtain ⟨F, A, env, gd, re, m⟩ := h
    unfold fApp at m
    split at m
    case isFalse => exact m.elim
    rename_i hl
    obtain ⟨a, e1, ty⟩ := isL_ty gd re hl
    refine ⟨.ref a, e1, ty, F, A, env, gd, re, (Run.bind m).imp (fun x hx F1 B1 A1 H1 v s1 g1 r1 o1 => ?_) fun _ _ h => h⟩
    split at hx
    · rename_i l el
      split at hx
      · rename_i hlen
        obtain ⟨a2, vs, As, e2, h1, h2, nd, sb, k⟩ := slot_lst g1 r1 el
        rw [e1] at e2
        cases e2
        obtain ⟨A', z1, z2, z3, _⟩ := k (l ++ [x.1]) (vs ++ [v]) (As ++ B1) [] (h2.snoc o1) (by rw [List.append_nil]; exact nd) (by rw [List.append_nil]; exact fun b hb => hb)
        exact ⟨a, vs, v, rfl, rfl, h1, big_lt (by rw [h2.len]; exact hlen), hx F1 [] A' _ .non (s1.trans z3) z2 z1 ⟨rfl, rfl⟩⟩
      · exact hx.elim
    · exact hx.elim
theorem RepOs.split : ∀ {mg : Gm} {F H : Hp} {os : List OV} {vs : List V} {B : List Addr} {o : OV}, RepOs mg F H os vs B → os.getLast? = some o → ∃ v B1 B2, vs[vs.length - 1]? = some v ∧ RepOs mg F H os.dropLast vs.dropLast B1 ∧ RepO mg F H o v B2 ∧ B = B1 ++ B2
  | mg, F, H, [], vs, B, o, h, e => by cases e
  | mg, F, H, [p], vs, B, o, h, e => by
    obtain ⟨v, vs', A1, A2, rfl, rfl, h1, h2⟩ := h
    obtain ⟨rfl, rfl⟩ := h2
    have e' : p = o := by simpa using e
    subst e'
    exact ⟨v, [], A1, rfl, ⟨rfl, rfl⟩, h1, by simp⟩
  | mg, F, H, p :: q :: l, vs, B, o, h, e => by
    obtain ⟨v, vs', A1, A2, rfl, rfl, h1, h2⟩ := h
    obtain ⟨w, B1, B2, z1, z2, z3, rfl⟩ := RepOs.split h2 (by simpa [List.getLast?_cons_cons] using e)
    have hl := h2.len
    cases vs' with
    | nil => simp at hl
    | cons v2 vs2 =>
      refine ⟨w, A1 ++ B1, B2, by simpa using z1, ?_, z3, by rw [List.append_assoc]⟩
      exact ⟨v, _, A1, B1, rfl, rfl, h1, z2⟩
theorem je_pop {o : Expr} {apos cpos : Pos} {i : Nat} (ho : PE X o (tVar i)) (hbase : attributeBase o "pop" X.env (eval o X.env) = eval o X.env := by rfl) (hline : (apos.endLine == cpos.line) = true := by rfl) : JE X W (.Call (.Attribute o "pop" apos) [] [] cpos) (fPop i) :=
  PE.imp (pe_bm0 PySem.F.plainAttrs_list PySem.F.slot_list_pop PySem.F.type_list_pop mt_pop ho hbase hline) fun σ H Q h => by
    obtain ⟨F, A, env, gd, re, m⟩ := h
    unfold fPop at m
    split at m
    · rename_i l el
      split at m
      · rename_i o hlast
        obtain ⟨a, vs, As, e2, h1, h2, nd, sb, k⟩ := slot_lst (C := []) (by exact gd) re el
        obtain ⟨v, B1, B2, q1, q2, q3, rfl⟩ := h2.split hlast
        rw [List.append_nil] at nd
        obtain ⟨A', z1, z2, z3, z4⟩ := k l.dropLast vs.dropLast B1 B2 q2 nd (by rw [List.append_nil]; exact fun b hb => hb)
        exact ⟨.ref a, e2, .inl ⟨rfl, vs, SqL.of h1⟩, a, vs, v, rfl, rfl, h1, q1, m F B2 A' _ v z3 z2 z1 (q3.up (fun _ _ z => z) z4)⟩
      · exact m.elim
    · exact m.elim
theorem RepOs.rev {mg : Gm} {F H : Hp} : ∀ {os : List OV} {vs : List V} {B : List Addr}, RepOs mg F H os vs B → ∃ B', RepOs mg F H os.reverse vs.reverse B' ∧ B.Perm B'
  | [], _, _, h => by
    obtain ⟨rfl, rfl⟩ := h
    exact ⟨[], ⟨rfl, rfl⟩, List.Perm.refl _⟩
  | p :: l, _, _, h => by
    obtain ⟨v, vs', A1, A2, rfl, rfl, h1, h2⟩ := h
    obtain ⟨B', z1, z2⟩ := RepOs.rev h2
    refine ⟨B' ++ A1, ?_, ?_⟩
    · rw [List.reverse_cons, List.reverse_cons]
      exact z1.snoc h1
    · exact List.perm_append_comm.trans (List.Perm.append_right A1 z2)
theorem je_rev {o : Expr} {apos cpos : Pos} {i : Nat} (ho : PE X o (tVar i)) (hbase : attributeBase o "reverse" X.env (eval o X.env) = eval o X.env := by rfl) (hline : (apos.endLine == cpos.line) = true := by rfl) : JE X W (.Call (.Attribute o "reverse" apos) [] [] cpos) (fRev i) :=
  PE.imp (pe_bm0 PySem.F.plainAttrs_list PySem.F.slot_list_reverse PySem.F.type_list_reverse mt_reverse ho hbase hline) fun σ H Q h => by
    obtain ⟨F, A, env, gd, re, m⟩ := h
    unfold fRev at m
    split at m
    · rename_i l el
      obtain ⟨a, vs, As, e2, h1, h2, nd, sb, k⟩ := slot_lst (C := []) (by exact gd) re el
      obtain ⟨B', q1, q2⟩ := h2.rev
      rw [List.append_nil] at nd
      obtain ⟨A', z1, z2, z3, z4⟩ := k l.reverse vs.reverse B' [] q1 (by rw [List.append_nil]; exact q2.nodup_iff.mp nd) (by rw [List.append_nil, List.append_nil]; exact fun b hb => q2.mem_iff.mpr hb)
      exact ⟨.ref a, e2, .inl ⟨rfl, vs, SqL.of h1⟩, a, vs, rfl, rfl, h1, m F [] A' _ .non z3 z2 z1 ⟨rfl, rfl⟩⟩
    · exact m.elim
theorem repOs_val {mg : Gm} {F H : Hp} : ∀ {ps : List PV} {vs : List V}, Reps mg F ps vs → RepOs mg F H (ps.map .val) vs []
  | [], _, r => ⟨r, rfl⟩
  | p :: l, _, r => by
    obtain ⟨v, vs', rfl, h1, h2⟩ := r
    exact ⟨v, vs', [], [], rfl, rfl, ⟨rfl, h1⟩, repOs_val h2⟩
theorem RepOs.app {mg : Gm} {F H : Hp} : ∀ {os ps : List OV} {vs ws : List V} {B C : List Addr}, RepOs mg F H os vs B → RepOs mg F H ps ws C → RepOs mg F H (os ++ ps) (vs ++ ws) (B ++ C)
  | [], _, _, _, _, _, h, r => by
    obtain ⟨rfl, rfl⟩ := h
    exact r
  | p :: l, _, _, _, _, _, h, r => by
    obtain ⟨v, vs', A1, A2, rfl, rfl, h1, h2⟩ := h
    exact ⟨v, _, A1, _, rfl, List.append_assoc _ _ _, h1, RepOs.app h2 r⟩
theorem je_ext {o e : Expr} {apos cpos : Pos} {i : Nat} {f : FE} (ho : PE X o (tVar i)) (he : JE X W e f)
    (hbase : attributeBase o "extend" X.env (eval o X.env) = eval o X.env := by rfl)
    (hfew : ((backTo cpos (starEach [e] X.env)).all (fun x => !x.1) && (backToKw cpos (keywordEach [] X.env)).all (fun x => x.1.isSome)
      && decide (([e] : List Expr).length + ([] : List Keyword).length + (if ([] : List Keyword).isEmpty then 0 else 1) < 30)) = true := by rfl)
    (hline : (apos.endLine == cpos.line) = true := by rfl) (hs : starEach [e] X.env = (false, eval e X.env) :: starEach [] X.env := by rfl) (hplain : (backTo cpos (starEach [] X.env)).any (·.1) = false := by rfl) :
    JE X W (.Call (.Attribute o "extend" apos) [e] [] cpos) (fExt i f) :=
  PE.imp (pe_bm PySem.F.plainAttrs_list PySem.F.slot_list_extend PySem.F.type_list_extend mt_extend ho (pa_cons he pa_nil hs) hbase hfew hline hs hplain) fun σ H Q h => by
    obtain ⟨F, A, env, gd, re, m⟩ := h
    unfold fExt at m
    split at m
    case isFalse => exact m.elim
    rename_i hl
    obtain ⟨a, e1, ty⟩ := isL_ty gd re hl
    refine ⟨.ref a, e1, ty, F, A, env, gd, re, (Run.bind m).imp (fun x hx F1 B1 A1 H1 v s1 g1 r1 o1 => ?_) fun _ _ h => h⟩
    obtain ⟨ox, envx⟩ := x
    dsimp only at hx r1 o1
    split at hx
    · rename_i qs l el
      split at hx
      · rename_i hlen
        obtain ⟨rfl, b, ws, rfl, hb, rw'⟩ := o1
        obtain ⟨a2, vs, As, e2, h1, h2, nd, sb, k⟩ := slot_lst g1 r1 el
        rw [e1] at e2
        cases e2
        obtain ⟨A', z1, z2, z3, _⟩ := k (l ++ qs.map .val) (vs ++ ws) As [] (by
          have := h2.app (repOs_val (H := H1) rw')
          rw [List.append_nil] at this
          exact this) nd (fun b hb => hb)
        exact ⟨a, b, vs, ws, rfl, rfl, h1, g1.sub _ _ hb, big_le (by rw [h2.len, rw'.len]; exact hlen), hx F1 [] A' _ .non (s1.trans z3) z2 z1 ⟨rfl, rfl⟩⟩
      · exact hx.elim
    · exact hx.elim
end
end Ev

/-! # Ev 11: stores, dicts -/
namespace Ev
open PySem L2

/-! ### xs[k] = e, xs the list of slot i -/
def fSetL (i : Nat) (fk f : FE) : FS := fun env => (f env).bind fun x => if isL x.2 i = true then (fk x.2).bind fun y => match y.1, y.2[i]? with
    | .val (.int k), some (some (.lst l)) => (match ixN l.length k with
      | some j => .ok (.nx, y.2.set i (some (.lst (l.set j x.1))))
      | none => .stuck)
    | _, _ => .stuck
  else .stuck
theorem RepOs.setv {mg : Gm} {F H : Hp} : ∀ {os : List OV} {vs : List V} {B : List Addr} {j : Nat} {o : OV} {v : V} {C : List Addr}, RepOs mg F H os vs B → RepO mg F H o v C → (B ++ C).Nodup →
    ∃ B', RepOs mg F H (os.set j o) (vs.set j v) B' ∧ B'.Nodup ∧ ∀ b ∈ B', b ∈ B ++ C
  | [], _, _, j, o, v, C, h, r, nd => by
    obtain ⟨rfl, rfl⟩ := h
    exact ⟨[], ⟨rfl, rfl⟩, List.nodup_nil, fun b hb => nomatch hb⟩
  | p :: l, _, _, 0, o, v, C, h, r, nd => by
    obtain ⟨w, ws, A1, A2, rfl, rfl, h1, h2⟩ := h
    refine ⟨C ++ A2, ⟨v, ws, C, A2, rfl, rfl, r, h2⟩, ?_, fun b hb => ?_⟩
    · have := (nd.sublist (List.Sublist.append (List.sublist_append_right A1 A2) (List.Sublist.refl C)))
      exact (List.perm_append_comm.nodup_iff).mp this
    · rcases List.mem_append.mp hb with z | z
      · exact List.mem_append_right _ z
      · exact List.mem_append_left _ (List.mem_append_right _ z)
  | p :: l, _, _, j + 1, o, v, C, h, r, nd => by
    obtain ⟨w, ws, A1, A2, rfl, rfl, h1, h2⟩ := h
    rw [List.append_assoc] at nd
    have n2 := List.nodup_append.mp nd
    obtain ⟨B', z1, z2, z3⟩ := RepOs.setv (j := j) h2 r n2.2.1
    refine ⟨A1 ++ B', ⟨w, _, A1, B', rfl, rfl, h1, z1⟩, List.nodup_append.mpr ⟨n2.1, z2, fun a ha b hb => n2.2.2 a ha b (z3 b hb)⟩, fun b hb => ?_⟩
    rw [List.append_assoc]
    rcases List.mem_append.mp hb with z | z
    · exact List.mem_append_left _ z
    · exact List.mem_append_right _ (z3 b z)
section
variable {X : Cx} {W : WX} {ts : List Nat} {pos : Pos}
theorem js_setL {o idx e : Expr} {i : Nat} {fk f : FE} {pos' : Pos} (ho : PE X o (tVar i)) (hk : JE X W idx fk) (he : JE X W e f) (hs : swapsWithSole [.Subscript o idx pos'] e pos.line X.env = pure false := by rfl) (hw : swappedStores [.Subscript o idx pos'] e X.env = pure none := by rfl)
    (h1 : (assignEach [.Subscript o idx pos'] X.env).map (·.2) = [assign (.Subscript o idx pos') X.env] := by rfl)
    (ha : ∀ v, assign (.Subscript o idx pos') X.env v = (do
      let ov ← holding [v] (eval o X.env)
      let iv ← holding [v, ov] (eval idx X.env)
      standAt pos'
      holding [v, ov, iv] (setItem ov iv v)
      release [v, ov, iv] []) := by intro _; rfl) : JS X W ts (.Assign [.Subscript o idx pos'] e pos) (fSetL i fk f) :=
  PS.imp (ps_asg he (pg_sub ho hk set_list ha) hs hw h1) fun D σ H h => by
    obtain ⟨F, A, env, gd, re, m⟩ := h
    refine ⟨F, A, env, gd, re, (Run.bind m).imp (fun x hx F1 B1 A1 H1 v s1 g1 r1 o1 => ?_) fun _ _ h => h⟩
    split at hx
    case isFalse => exact hx.elim
    rename_i hl
    obtain ⟨a, ea, _⟩ := isL_ty g1.right r1 hl
    refine ⟨.ref a, ea, F1, A1, x.2, g1.right, r1, (Run.bind hx).imp (fun y hy F2 B2 A2 H2 u s2 g2 r2 o2 => ?_) fun c fs hq => PostX.step hq s1 fun _ z => List.mem_append_right _ z⟩
    obtain ⟨ko, env2⟩ := y
    dsimp only at hy r2 o2
    split at hy
    · rename_i k l el
      split at hy
      · rename_i j hj
        obtain ⟨rfl, rk⟩ := o2
        obtain ⟨q1, q2, q3⟩ := s2.beside g1 g2
        obtain ⟨a2, vs, As, e2, h1, h2, nd, sb, kk⟩ := slot_lst q1 r2 el
        rw [ea] at e2
        cases e2
        obtain ⟨B', z1, z2, z3⟩ := RepOs.setv (j := j) h2 (o1.up (H' := H2) s2.ext q3) nd
        obtain ⟨A', y1, y2, y3, _⟩ := kk _ _ B' [] z1 (by rw [List.append_nil]; exact z2) (by rw [List.append_nil]; exact z3)
        exact ⟨a, vs, k, j, rfl, rk, h1, by rw [h2.len]; exact hj, hy F2 A' _ σ (s1.trans (q2.trans y3)) y2 y1 But.refl⟩
      · exact hy.elim
    · exact hy.elim
end

/-! ### dicts -/
/-- a key as data -/
def kO : PV → Option Key
  | .int i => some (.inl i)
  | .str s => some (.inr s)
  | _ => none
theorem kO_ok {p : PV} {k : Key} (h : kO p = some k) : p = kP k := by
  cases p with
  | int i => cases h; rfl
  | str s => cases h; rfl
  | _ => cases h
theorem kP_inj {a b : Key} (h : kP a = kP b) : a = b := by
  cases a with
  | inl i =>
    cases b with
    | inl j => cases h; rfl
    | inr s => cases h
  | inr t =>
    cases b with
    | inl j => cases h
    | inr s => cases h; rfl
theorem kO_kP (k : Key) : kO (kP k) = some k := by cases k <;> rfl
theorem rep_kP {mg : Gm} {F : Hp} {k : Key} {v : V} (h : Rep mg F (kP k) v) : v = kV k := by
  cases k with
  | inl i => exact h
  | inr s => exact h
def kEq (p q : PV) : Bool := match kO p, kO q with
  | some a, some b => decide (a = b)
  | _, _ => false
theorem kEq_kP (a b : Key) : kEq (kP a) (kP b) = decide (a = b) := by
  unfold kEq
  rw [kO_kP, kO_kP]
def getK : List (PV × PV) → PV → Option PV
  | [], _ => none
  | (k, v) :: l, p => if kEq k p = true then some v else getK l p
def getO : List (PV × OV) → PV → Option OV
  | [], _ => none
  | (k, v) :: l, p => if kEq k p = true then some v else getO l p
/-- d[p] = o, o frozen -/
def putO (l : List (PV × OV)) (p q : PV) : List (PV × OV) := if l.any (fun kv => kEq kv.1 p) = true then l.map (fun kv => if kEq kv.1 p = true then (kv.1, .val q) else kv) else l ++ [(p, .val q)]
section
variable {mg : Gm} {F H : Hp}
theorem RepKs.get : ∀ {l : List (PV × PV)} {kvs : List (Key × V)} {k : Key}, RepKs mg F l kvs → (∀ p, getK l (kP k) = some p → ∃ v, valV kvs k = some v ∧ Rep mg F p v) ∧ (getK l (kP k) = none → valV kvs k = none)
  | [], _, k, h => by
    rw [show _ = [] from h]
    exact ⟨fun p e => (nomatch e), fun _ => rfl⟩
  | (q, p0) :: l, _, k, h => by
    obtain ⟨q', v, kvs', rfl, rfl, h1, h2⟩ := h
    unfold getK
    rw [kEq_kP]
    by_cases e : q' = k
    · subst e
      rw [decide_eq_true rfl, if_pos rfl, valV_pos rfl]
      exact ⟨fun p e => by cases e; exact ⟨v, rfl, h1⟩, fun e => (nomatch e)⟩
    · rw [decide_eq_false e, if_neg Bool.false_ne_true, valV_neg e]
      exact RepKs.get h2
theorem RepOKs.len : ∀ {l : List (PV × OV)} {kvs : List (Key × V)} {B : List Addr}, RepOKs mg F H l kvs B → kvs.length = l.length
  | [], _, _, h => by
    rw [h.1]
    all_goals rfl
  | (k, p) :: l, _, _, h => by
    obtain ⟨q, v, kvs', A1, A2, rfl, rfl, _, _, h2⟩ := h
    rw [List.length_cons, List.length_cons, RepOKs.len h2]
theorem RepOKs.any : ∀ {l : List (PV × OV)} {kvs : List (Key × V)} {B : List Addr} {k : Key}, RepOKs mg F H l kvs B → (l.any fun kv => kEq kv.1 (kP k)) = kvs.any fun kv => decide (kv.1 = k)
  | [], _, _, k, h => by
    rw [h.1]
    all_goals rfl
  | (q, p) :: l, _, _, k, h => by
    obtain ⟨q', v, kvs', A1, A2, rfl, rfl, rfl, _, h2⟩ := h
    rw [List.any_cons, List.any_cons, RepOKs.any h2, kEq_kP]
theorem RepOKs.repl : ∀ {l : List (PV × OV)} {kvs : List (Key × V)} {B : List Addr} {k : Key} {q : PV} {y : V}, RepOKs mg F H l kvs B → Rep mg F q y → ∃ B', RepOKs mg F H (l.map fun kv => if kEq kv.1 (kP k) = true then (kv.1, .val q) else kv) (kvs.map fun kv => if kv.1 = k then (kv.1, y) else kv) B' ∧ B'.Sublist B
  | [], _, _, k, q, y, h, r => by
    obtain ⟨rfl, rfl⟩ := h
    exact ⟨[], ⟨rfl, rfl⟩, List.Sublist.refl _⟩
  | (q', p) :: l, _, _, k, q, y, h, r => by
    obtain ⟨q2, v, kvs', A1, A2, rfl, rfl, rfl, h1, h2⟩ := h
    obtain ⟨B', z1, z2⟩ := RepOKs.repl (k := k) h2 r
    rw [List.map_cons, List.map_cons]
    by_cases e : q2 = k
    · subst e
      rw [kEq_kP, decide_eq_true rfl, if_pos rfl, if_pos rfl]
      exact ⟨B', ⟨q2, y, _, [], B', rfl, rfl, rfl, ⟨rfl, r⟩, z1⟩, z2.trans (List.sublist_append_right A1 A2)⟩
    · rw [kEq_kP, decide_eq_false e, if_neg Bool.false_ne_true, if_neg e]
      exact ⟨A1 ++ B', ⟨q2, v, _, A1, B', rfl, rfl, rfl, h1, z1⟩, List.Sublist.append (List.Sublist.refl _) z2⟩
theorem RepOKs.snoc : ∀ {l : List (PV × OV)} {kvs : List (Key × V)} {B : List Addr} {k : Key} {q : PV} {y : V}, RepOKs mg F H l kvs B → Rep mg F q y → RepOKs mg F H (l ++ [(kP k, .val q)]) (kvs ++ [(k, y)]) B
  | [], _, _, k, q, y, h, r => by
    obtain ⟨rfl, rfl⟩ := h
    exact ⟨k, y, [], [], [], rfl, rfl, rfl, ⟨rfl, r⟩, rfl, rfl⟩
  | (q', p) :: l, _, _, k, q, y, h, r => by
    obtain ⟨q2, v, kvs', A1, A2, rfl, rfl, rfl, h1, h2⟩ := h
    exact ⟨q2, v, _, A1, A2, rfl, rfl, rfl, h1, RepOKs.snoc h2 r⟩
theorem RepOKs.put {l : List (PV × OV)} {kvs : List (Key × V)} {B : List Addr} {k : Key} {q : PV} {y : V} (h : RepOKs mg F H l kvs B) (r : Rep mg F q y) : ∃ B', RepOKs mg F H (putO l (kP k) q) (putK kvs k y) B' ∧ B'.Sublist B := by
  unfold putO putK
  rw [h.any]
  split
  · exact h.repl r
  · exact ⟨B, h.snoc r, List.Sublist.refl _⟩
end

/-- d[k] of a frozen dict -/
def gDget : PV → PV → Res OV
  | .dct l, p => (match kO p with
    | some _ => (match getK l p with
      | some q => ov q
      | none => .stuck)
    | none => .stuck)
  | _, _ => .stuck
def gDin (neg : Bool) (p d : PV) : Res OV := match d with
  | .dct l => (match kO p with
    | some _ => ov (.bl (if neg = true then !(getK l p).isSome else (getK l p).isSome))
    | none => .stuck)
  | _ => .stuck
theorem calm_dget : Calm2 gDget := fun p q c fs h => by
  unfold gDget at h
  split at h
  · split at h
    · split at h <;> cases h
    · cases h
  · cases h
theorem calm_din {n : Bool} : Calm2 (gDin n) := fun p q c fs h => by
  unfold gDin at h
  split at h
  · split at h <;> cases h
  · cases h
section
variable {X : Cx} {W : WX} {ts : List Nat} {pos : Pos} {mg : Gm}
def rDget : R2 := fun x y H Q => ∃ a v, x = .ref a ∧ DGet H a y (some v) ∧ Q v H
def rDin (neg : Bool) : R2 := fun y x H Q => ∃ a o, x = .ref a ∧ DGet H a y o ∧ Q (.bl (if neg = true then !o.isSome else o.isSome)) H
theorem o2_dget : Op2 mg rDget gDget := fun F H x y p q Q gd r1 r2 m => by
  unfold gDget at m
  split at m
  · split at m
    · rename_i l p _ k hk
      split at m
      · rename_i _ q hq
        obtain ⟨a, kvs, rfl, h1, h2⟩ := r1
        have ep := kO_ok hk
        subst ep
        obtain ⟨v, e1, e2⟩ := h2.get.1 q hq
        exact ⟨a, v, rfl, .inl ⟨kvs, k, Rd.sub gd h1, rep_kP r2, e1.symm⟩, PostO.val m gd e2⟩
      · exact m.elim
    · exact m.elim
  · exact m.elim
theorem o2_din {neg : Bool} : Op2 mg (rDin neg) (gDin neg) := fun F H x y p q Q gd r1 r2 m => by
  unfold gDin at m
  split at m
  · split at m
    · rename_i l _ k hk
      obtain ⟨a, kvs, rfl, h1, h2⟩ := r2
      have ep := kO_ok hk
      subst ep
      have es : (getK l (kP k)).isSome = (valV kvs k).isSome := by
        cases q : getK l (kP k) with
        | none => rw [h2.get.2 q]; rfl
        | some p => obtain ⟨v, e1, _⟩ := h2.get.1 p q; rw [e1]; rfl
      rw [es] at m
      exact ⟨a, _, rfl, .inl ⟨kvs, k, Rd.sub gd h1, rep_kP r1, rfl⟩, PostO.val m gd rfl⟩
    · exact m.elim
  · exact m.elim
theorem je_dget {o i : Expr} {f1 f2 : FE} (hu : X.A.units + 1 < cLine) (ho : JE X W o f1) (hi : JE X W i f2) (hs : NoSl i) : JE X W (.Subscript o i pos) (fO2 gDget f1 f2) :=
  PE.imp (pe_dget hu ho hi hs) fun _ _ _ h => tE_O2 (r := rDget) o2_dget calm_dget h
theorem pc_of {op : CmpOp} {a b : Expr} {t t' : TE} (h : PC X op a b t) (k : ∀ σ H Q, t' σ H Q → t σ H Q) : PC X op a b t' := ⟨fun pins s σ H Q I w => h.run pins s σ H Q I (k _ _ _ w)⟩
theorem jt_din {o i : Expr} {f1 f2 : FE} (hu : X.A.units + 1 < cLine) (hi : JE X W i f1) (ho : JE X W o f2) (h1 : behindInMarks .In o = false := by rfl) : JT X W (.Compare i [.In] [o] pos) (fB (fO2 (gDin false) f1 f2)) :=
  (pt_cmp (pc_din hu hi ho) h1).imp fun σ H Q h => tE_O2 (r := rDin false) o2_din calm_din (tT_B h)
theorem jt_dnin {o i : Expr} {f1 f2 : FE} (hu : X.A.units + 1 < cLine) (hi : JE X W i f1) (ho : JE X W o f2) (h1 : behindInMarks .NotIn o = false := by rfl) : JT X W (.Compare i [.NotIn] [o] pos) (fB (fO2 (gDin true) f1 f2)) :=
  (pt_cmp (pc_dnotin hu hi ho) h1).imp fun σ H Q h => tE_O2 (r := rDin true) o2_din calm_din (tT_B h)
theorem je_din {o i : Expr} {f1 f2 : FE} (hu : X.A.units + 1 < cLine) (hi : JE X W i f1) (ho : JE X W o f2) (h1 : behindInMarks .In o = false := by rfl) : JE X W (.Compare i [.In] [o] pos) (fO2 (gDin false) f1 f2) :=
  PE.imp (pe_cmp (pc_din hu hi ho) h1) fun σ H Q h => tE_O2 (r := rDin false) o2_din calm_din h
theorem je_dnin {o i : Expr} {f1 f2 : FE} (hu : X.A.units + 1 < cLine) (hi : JE X W i f1) (ho : JE X W o f2) (h1 : behindInMarks .NotIn o = false := by rfl) : JE X W (.Compare i [.NotIn] [o] pos) (fO2 (gDin true) f1 f2) :=
  PE.imp (pe_cmp (pc_dnotin hu hi ho) h1) fun σ H Q h => tE_O2 (r := rDin true) o2_din calm_din h
/-! {}, dict(d) -/
def fD0 : FE := fun env => .ok (.dct [], env)
theorem new_dct {F H : Hp} {Q : VK} {l : List (PV × PV)} {kvs : List (Key × V)} {a : Addr} (h : PostO mg F H Q (.dct (l.map fun kv => (kv.1, .val kv.2)))) (g : Good F [] H) (n : H a = none) (r : RepKs mg F l kvs) : Q (.ref a) (upd H a (.dK kvs)) := by
  obtain ⟨s, g'⟩ := new_step (o := .dK kvs) g n
  have aux : ∀ (H' : Hp) (l : List (PV × PV)) (kvs : List (Key × V)), RepKs mg F l kvs → RepOKs mg F H' (l.map fun kv => (kv.1, .val kv.2)) kvs [] := by
    intro H' l
    induction l with
    | nil => intro vs r; exact ⟨r, rfl⟩
    | cons p l ih =>
      intro vs r
      obtain ⟨q, v, vs', rfl, hq, h1, h2⟩ := r
      exact ⟨q, v, vs', [], [], rfl, rfl, hq, ⟨rfl, h1⟩, ih _ h2⟩
  exact h F [a] _ _ s g' ⟨a, kvs, [], rfl, upd_same, rfl, aux _ l kvs r⟩
theorem je_d0 : JE X W (.Dict [] [] pos) fD0 := PE.imp pe_dnewK fun σ H Q ⟨F, A, env, g, re, m⟩ p hp => by
  have z : PostO X.gm F H Q (.dct []) := post_op (σ := σ) m Step.refl g re
  exact new_dct (l := []) z (good_nil g) hp rfl
def gDict : List PV → Res OV
  | [.dct l] => .ok (.dct (l.map fun kv => (kv.1, .val kv.2)))
  | _ => .stuck
theorem calm_dict : CalmN gDict := fun p c fs h => by
  unfold gDict at h
  split at h <;> cases h
theorem on_dict : OpN mg (fun xs H Q => ∃ (a : Addr) (kvs : List (Key × V)), xs = [.ref a] ∧ Rd H a (.dK kvs) ∧ ∀ p, H p = none → Q (.ref p) (upd H p (.dK kvs))) gDict := fun F H xs ps Q gd r m => by
  unfold gDict at m
  split at m
  · obtain ⟨v, vs', rfl, ⟨a, ws, rfl, h1, h2⟩, rfl⟩ := r
    exact ⟨a, ws, rfl, Rd.sub gd h1, fun p hp => new_dct m gd hp h2⟩
  · exact m.elim
/-! sorted(d): int keys -/
def gSortedD : List PV → Res OV
  | [.dct l] => (match intsOf (l.map (·.1)) with
    | some ns => if ns.length < 64 then .ok (.lst ((srt ns).map fun n => .val (.int n))) else .stuck
    | none => .stuck)
  | _ => .stuck
theorem calm_sortedD : CalmN gSortedD := fun p c fs h => by
  unfold gSortedD at h
  split at h
  · split at h
    · split at h <;> cases h
    · cases h
  · cases h
theorem RepKs.keys {F : Hp} : ∀ {l : List (PV × PV)} {kvs : List (Key × V)} {ns : List Int}, RepKs mg F l kvs → l.map (·.1) = ns.map .int → kvs.map (·.1) = ns.map Sum.inl
  | [], _, ns, h, e => by
    rw [show _ = [] from h]
    cases ns with
    | nil => rfl
    | cons n r => cases e
  | (k, p) :: l, _, ns, h, e => by
    obtain ⟨q, v, kvs', rfl, hk, _, h2⟩ := h
    cases ns with
    | nil => cases e
    | cons n r =>
      injection e with e1 e2
      have e1' : k = .int n := e1
      rw [hk] at e1'
      rw [List.map_cons, List.map_cons, RepKs.keys h2 e2, show q = Sum.inl n from kP_inj (b := Sum.inl n) e1']
theorem on_sortedD : OpN mg (fun xs H Q => ∃ (a : Addr) (kvs : List (Key × V)) (ks : List Int), xs = [.ref a] ∧ Rd H a (.dK kvs) ∧ kvs.map (·.1) = ks.map Sum.inl ∧ ks.length < 64 ∧
    ∀ (ys : List Int) (p : Addr), ys.Perm ks → ys.Pairwise (· ≤ ·) → H p = none → Q (.ref p) (upd H p (.lst (ys.map V.int)))) gSortedD := fun F H xs ps Q gd r m => by
  unfold gSortedD at m
  split at m
  · split at m
    · rename_i l _ ns e
      split at m
      · rename_i hl
        obtain ⟨v, vs', rfl, ⟨a, ws, rfl, h1, h2⟩, rfl⟩ := r
        refine ⟨a, ws, ns, rfl, Rd.sub gd h1, h2.keys (intsOf_ok e), hl, fun ns' p hp hs hn => ?_⟩
        have e2 : ns' = srt ns := sorted_one (hp.trans (srt_perm ns).symm) hs (srt_le ns)
        subst e2
        refine PostO.lst (mg := mg) (ps := (srt ns).map .int) ?_ gd hn (reps_ints _)
        rw [List.map_map]
        exact m
      · exact m.elim
    · exact m.elim
  · exact m.elim
/-! d[k] = e, d the dict of slot i -/
def isD (env : Env) (i : Nat) : Bool := match env[i]? with
  | some (some (.dct _)) => true
  | _ => false
def fDput (i : Nat) (fk f : FE) : FS := fun env => (f env).bind fun x => if isD x.2 i = true then (vl x.1).bind fun q => (fk x.2).bind fun y => (vl y.1).bind fun p => match kO p, y.2[i]? with
    | some _, some (some (.dct l)) => if l.length < 10000000 then .ok (.nx, y.2.set i (some (.dct (putO l p q)))) else .stuck
    | _, _ => .stuck
  else .stuck
theorem js_dput {o idx e : Expr} {i : Nat} {fk f : FE} {pos' : Pos} (hu : X.A.units + 1 < cLine) (ho : PE X o (tVar i)) (hk : JE X W idx fk) (he : JE X W e f) (hs : swapsWith e (some (.Subscript o idx pos')) pos.line X.env = pure false := by rfl) : JS X W ts (.Assign [.Subscript o idx pos'] e pos) (fDput i fk f) :=
  PS.imp (ps_dput hu ho hk he hs) fun D σ H h => by
    obtain ⟨F, A, env, gd, re, m⟩ := h
    refine ⟨F, A, env, gd, re, (Run.bind m).imp (fun x hx F1 B1 A1 H1 v s1 g1 r1 o1 => ?_) fun _ _ h => h⟩
    split at hx
    case isFalse => exact hx.elim
    rename_i hl
    obtain ⟨q, _, rq, rfl, hx2⟩ := vl_of hx o1
    have ed : ∃ l, x.2[i]? = some (some (.dct l)) := by
      unfold isD at hl
      split at hl
      · exact ⟨_, by assumption⟩
      · cases hl
    obtain ⟨l0, el0⟩ := ed
    obtain ⟨a, _, _, ea, _⟩ := slot_dct (C := []) (by exact g1) r1 el0
    refine ⟨.ref a, ea, F1, A1, x.2, g1, r1, (Run.bind hx2).imp (fun y hy F2 B2 A2 H2 u s2 g2 r2 o2 => ?_) fun c fs hq => PostX.step hq s1 fun _ z => z⟩
    obtain ⟨p, _, rp, rfl, hy2⟩ := vl_of hy o2
    split at hy2
    · rename_i k l hkk el
      split at hy2
      · rename_i hlen
        obtain ⟨a2, kvs, As, e2, h1, h2, nd, sb, kk⟩ := slot_dct (C := []) (by exact g2) r2 el
        rw [ea] at e2
        cases e2
        have ep := kO_ok hkk
        subst ep
        obtain ⟨B', z1, z2⟩ := h2.put (k := k) (rq.up s2.ext)
        rw [List.append_nil] at nd
        obtain ⟨A', y1, y2, y3, _⟩ := kk _ _ B' [] z1 (by rw [List.append_nil]; exact nd.sublist z2) (by rw [List.append_nil, List.append_nil]; exact fun b hb => z2.mem hb)
        exact ⟨a, _, rfl, .inl ⟨kvs, k, h1, rep_kP rp, by rw [h2.len]; exact Nat.lt_of_lt_of_le hlen (by rw [sizeLine_eq]; decide), rfl⟩, hy2 F2 A' _ σ (s1.trans (s2.trans y3)) y2 y1 But.refl⟩
      · exact hy2.elim
    · exact hy2.elim
end
end Ev

/-! # Ev 12: instances, methods, exceptions -/
namespace Ev
open PySem L2

/-! ### fields -/
def putFO (f : Str) (o : OV) : List (Str × OV) → List (Str × OV)
  | [] => [(f, o)]
  | (g, x) :: r => if g = f then (g, o) :: r else (g, x) :: putFO f o r
def getF {α : Type} : List (Str × α) → Str → Option α
  | [], _ => none
  | (g, x) :: r, f => if g = f then some x else getF r f
section
variable {mg : Gm} {F H : Hp}
theorem look_cons {α : Type} {g f : Str} {x : α} {r : List (Str × α)} : List.lookup f ((g, x) :: r) = if g = f then some x else List.lookup f r := by
  by_cases h : g = f
  · subst h
    rw [if_pos rfl]
    simp [List.lookup]
  · have : (f == g) = false := by
      rw [beq_eq_false_iff_ne]
      exact Ne.symm h
    simp [List.lookup, this, h]
theorem RepFs.get : ∀ {fs : List (Str × PV)} {gs : List (Str × V)} {f : Str}, RepFs mg F fs gs → (∀ p, getF fs f = some p → ∃ v, gs.lookup f = some v ∧ Rep mg F p v) ∧ (getF fs f = none → gs.lookup f = none)
  | [], _, f, h => by
    rw [show _ = [] from h]
    exact ⟨fun p e => (nomatch e), fun _ => rfl⟩
  | (g, p0) :: l, _, f, h => by
    obtain ⟨v, gs', rfl, h1, h2⟩ := h
    rw [look_cons]
    unfold getF
    by_cases e : g = f
    · rw [if_pos e, if_pos e]
      exact ⟨fun p e => by cases e; exact ⟨v, rfl, h1⟩, fun e => (nomatch e)⟩
    · rw [if_neg e, if_neg e]
      exact RepFs.get h2
theorem RepOFs.get : ∀ {fs : List (Str × OV)} {gs : List (Str × V)} {B : List Addr} {f : Str}, RepOFs mg F H fs gs B → (∀ p, getF fs f = some (.val p) → ∃ v, gs.lookup f = some v ∧ Rep mg F p v) ∧ (getF fs f = none → gs.lookup f = none)
  | [], _, _, f, h => by
    rw [h.1]
    exact ⟨fun p e => (nomatch e), fun _ => rfl⟩
  | (g, p0) :: l, _, _, f, h => by
    obtain ⟨v, gs', A1, A2, rfl, rfl, h1, h2⟩ := h
    rw [look_cons]
    unfold getF
    by_cases e : g = f
    · rw [if_pos e, if_pos e]
      exact ⟨fun p e => by cases e; exact ⟨v, rfl, h1.2⟩, fun e => (nomatch e)⟩
    · rw [if_neg e, if_neg e]
      exact RepOFs.get h2
theorem RepOFs.len : ∀ {fs : List (Str × OV)} {gs : List (Str × V)} {B : List Addr}, RepOFs mg F H fs gs B → gs.length = fs.length
  | [], _, _, h => by
    rw [h.1]
    all_goals rfl
  | p :: l, _, _, h => by
    obtain ⟨v, gs', A1, A2, rfl, rfl, h1, h2⟩ := h
    rw [List.length_cons, List.length_cons, RepOFs.len h2]
theorem RepOFs.put {f : Str} {o : OV} {v : V} {C : List Addr} (r : RepO mg F H o v C) : ∀ {fs : List (Str × OV)} {gs : List (Str × V)} {B : List Addr}, RepOFs mg F H fs gs B → (B ++ C).Nodup →
    ∃ B', RepOFs mg F H (putFO f o fs) (putF f v gs) B' ∧ B'.Nodup ∧ ∀ b ∈ B', b ∈ B ++ C
  | [], _, _, h, nd => by
    obtain ⟨rfl, rfl⟩ := h
    exact ⟨C ++ [], ⟨v, [], C, [], rfl, rfl, r, rfl, rfl⟩, by simpa using nd, fun b hb => by simpa using hb⟩
  | (g, x) :: l, _, _, h, nd => by
    obtain ⟨w, gs', A1, A2, rfl, rfl, h1, h2⟩ := h
    unfold putFO putF
    by_cases e : g = f
    · rw [if_pos e, if_pos e]
      refine ⟨C ++ A2, ⟨v, gs', C, A2, rfl, rfl, r, h2⟩, ?_, fun b hb => ?_⟩
      · have := (nd.sublist (List.Sublist.append (List.sublist_append_right A1 A2) (List.Sublist.refl C)))
        exact (List.perm_append_comm.nodup_iff).mp this
      · rcases List.mem_append.mp hb with z | z
        · exact List.mem_append_right _ z
        · exact List.mem_append_left _ (List.mem_append_right _ z)
    · rw [if_neg e, if_neg e]
      rw [List.append_assoc] at nd
      have n2 := List.nodup_append.mp nd
      obtain ⟨B', z1, z2, z3⟩ := RepOFs.put r h2 n2.2.1
      refine ⟨A1 ++ B', ⟨w, _, A1, B', rfl, rfl, h1, z1⟩, List.nodup_append.mpr ⟨n2.1, z2, fun a ha b hb => n2.2.2 a ha b (z3 b hb)⟩, fun b hb => ?_⟩
      rw [List.append_assoc]
      rcases List.mem_append.mp hb with z | z
      · exact List.mem_append_left _ z
      · exact List.mem_append_right _ (z3 b z)
end
/-- a class of the text, whose instances have f of their own -/
structure Cf (X : Cx) (c f : Str) : Prop where
  ok : ∀ C, cls X.mg c = some C → Cls X.K C ∧ NoAttr X.K C f
def fld (c f : Str) : PV → Res OV
  | .ins c' fs => if c' = c then (match getF fs f with
    | some p => ov p
    | none => .stuck) else .stuck
  | _ => .stuck
def fFld (c f : Str) (fe : FE) : FE := fO1 (fld c f) fe
/-- a field of slot i's instance -/
def fSf (c f : Str) (i : Nat) : FE := fun env => match env[i]? with
  | some (some (.ins c' fs)) => if c' = c then (match getF fs f with
    | some (.val p) => .ok (.val p, env)
    | _ => .stuck) else .stuck
  | some (some (.val (.ins c' fs))) => if c' = c then (match getF fs f with
    | some p => .ok (.val p, env)
    | _ => .stuck) else .stuck
  | _ => .stuck
def fSfSet (c f : Str) (i : Nat) (fe : FE) : FS := fun env => (fe env).bind fun x => match x.2[i]? with
  | some (some (.ins c' fs)) => if c' = c ∧ fs.length < 1000 then .ok (.nx, x.2.set i (some (.ins c' (putFO f x.1 fs)))) else .stuck
  | _ => .stuck
def fSfAug (c f : Str) (i : Nat) (g : PV → PV → Res OV) (fe : FE) : FS := fun env => match env[i]? with
  | some (some (.ins c0 fs0)) => if c0 = c then (match getF fs0 f with
    | some (.val p) => (fe env).bind fun x => (vl x.1).bind fun q => (g p q).bind fun o => (match o, x.2[i]? with
      | .val r, some (some (.ins c' fs)) => if c' = c ∧ fs.length < 1000 then .ok (.nx, x.2.set i (some (.ins c' (putFO f (.val r) fs)))) else .stuck
      | _, _ => .stuck)
    | _ => .stuck) else .stuck
  | _ => .stuck
section
variable {X : Cx} {W : WX} {ts : List Nat} {pos : Pos} {c f : Str}
theorem calm_fld : Calm1 (fld c f) := fun p c fs h => by
  unfold fld at h
  split at h
  · split at h
    · split at h <;> cases h
    · cases h
  · cases h
theorem je_fld {e : Expr} {fe : FE} (k : Cf X c f) (he : JE X W e fe) (hb : attributeBase e f X.env (eval e X.env) = eval e X.env := by rfl) : JE X W (.Attribute e f pos) (fFld c f fe) :=
  PE.imp (pe_fld he hb) fun σ H Q h => by
    refine tE_O1 (r := fun x H Q => ∃ a C dx fs v, x = .ref a ∧ H a = some (.ins C dx fs) ∧ Cls X.K C ∧ NoAttr X.K C f ∧ fs.lookup f = some v ∧ Q v H) (g := fld c f) (mg := X.gm) (fun F H x p Q gd r m => ?_) calm_fld h
    unfold fld at m
    split at m
    · rename_i c' fs
      split at m
      · rename_i hc
        subst hc
        split at m
        · rename_i q hq
          obtain ⟨a, C, dx, gs, rfl, h1, h2, h3⟩ := r
          obtain ⟨v, e1, e2⟩ := h3.get.1 q hq
          obtain ⟨k1, k2⟩ := k.ok C h1
          exact ⟨a, C, dx, gs, v, rfl, gd.sub _ _ h2, k1, k2, e1, PostO.val m gd e2⟩
        · exact m.elim
      · exact m.elim
    · exact m.elim
theorem je_sf {e : Expr} {i : Nat} (k : Cf X c f) (he : PE X e (tVar i)) (hb : attributeBase e f X.env (eval e X.env) = eval e X.env := by rfl) : JE X W (.Attribute e f pos) (fSf c f i) :=
  PE.imp (pe_fld he hb) fun σ H Q h => by
    obtain ⟨F, A, env, gd, re, m⟩ := h
    unfold fSf at m
    split at m
    · rename_i c' fs e
      split at m
      · rename_i hc
        subst hc
        split at m
        · rename_i q hq
          obtain ⟨a, C, dx, gs, As, e1, h1, h2, h3, _⟩ := slot_ins (C := []) (by exact gd) re e
          obtain ⟨v, e2, e3⟩ := h3.get.1 q hq
          obtain ⟨k1, k2⟩ := k.ok C h1
          exact ⟨.ref a, e1, a, C, dx, gs, v, rfl, h2, k1, k2, e2, post_val m gd re e3⟩
        · exact m.elim
      · exact m.elim
    · rename_i c' fs e
      split at m
      · rename_i hc
        subst hc
        split at m
        · rename_i q hq
          obtain ⟨v, B, A', e1, ro, r', pm⟩ := re.take e
          obtain ⟨rfl, a, C, dx, gs, rfl, h1, h2, h3⟩ := ro
          obtain ⟨v, e2, e3⟩ := h3.get.1 q hq
          obtain ⟨k1, k2⟩ := k.ok C h1
          exact ⟨.ref a, e1, a, C, dx, gs, v, rfl, gd.sub _ _ h2, k1, k2, e2, post_val m gd re e3⟩
        · exact m.elim
      · exact m.elim
    · exact m.elim
theorem js_sf {o e : Expr} {i : Nat} {fe : FE} {pos' : Pos} (k : Cf X c f) (ho : PE X o (tVar i)) (he : JE X W e fe) (hs : swapsWith e (some (.Attribute o f pos')) pos.line X.env = pure false := by rfl) : JS X W ts (.Assign [.Attribute o f pos'] e pos) (fSfSet c f i fe) :=
  PS.imp (ps_fld ho he hs) fun D σ H h => by
    obtain ⟨F, A, env, gd, re, m⟩ := h
    refine ⟨F, A, env, gd, re, (Run.bind m).imp (fun x hx F1 B1 A1 H1 v s1 g1 r1 o1 => ?_) fun _ _ h => h⟩
    split at hx
    · rename_i c' fs e
      split at hx
      · rename_i hc
        obtain ⟨hc, hl⟩ := hc
        subst hc
        obtain ⟨a, C, dx, gs, As, e1, h1, h2, h3, nd, sb, kk⟩ := slot_ins g1 r1 e
        obtain ⟨k1, k2⟩ := k.ok C h1
        obtain ⟨B', z1, z2, z3⟩ := h3.put (f := f) o1 nd
        obtain ⟨A', y1, y2, y3, _⟩ := kk _ _ B' [] z1 (by rw [List.append_nil]; exact z2) (by rw [List.append_nil]; exact z3)
        exact ⟨.ref a, e1, a, C, dx, gs, rfl, h2, k1, k2, by rw [h3.len]; exact hl, hx F1 A' _ σ (s1.trans y3) y2 y1 But.refl⟩
      · exact hx.elim
    · exact hx.elim
theorem js_sfa {o e : Expr} {i : Nat} {op : Operator} {rd : R2} {g : PV → PV → Res OV} {fe : FE} {pos' : Pos} (k : Cf X c f) (ho : PE X o (tVar i)) (hop : InOp X op rd) (h2 : Op2 X.gm rd g) (hc2 : Calm2 g) (he : JE X W e fe) : JS X W ts (.AugAssign (.Attribute o f pos') op e pos) (fSfAug c f i g fe) :=
  PS.imp (ps_fldaug ho he hop) fun D σ H h => by
    obtain ⟨F, A, env, gd, re, m⟩ := h
    unfold fSfAug at m
    split at m
    · rename_i c0 fs0 e0
      split at m
      · rename_i hc0
        subst hc0
        split at m
        · rename_i p hp
          obtain ⟨a, C, dx, gs, As, e1, h1, hh2, h3, _⟩ := slot_ins (C := []) (by exact gd) re e0
          obtain ⟨v, ev, rv⟩ := h3.get.1 p hp
          obtain ⟨k1, k2⟩ := k.ok C h1
          refine ⟨.ref a, e1, a, C, dx, gs, v, rfl, hh2, k1, k2, ev, F, A, env, gd, re, (Run.bind m).imp (fun x hx F1 B1 A1 H1 u s1 g1 r1 o1 => ?_) fun _ _ h => h⟩
          obtain ⟨q, _, rq, rfl, hx2⟩ := vl_of hx o1
          refine h2 F1 H1 v u p q _ (good_nil g1) (rv.up s1.ext) rq ((run_no (Run.bind hx2) (hc2 p q)).imp (fun o z F2 B2 H2 w s2 g2 ow => ?_) fun _ _ h => h)
          obtain ⟨q1, q2, q3⟩ := s2.aside g1 g2
          split at z
          · rename_i r c' fs e'
            split at z
            · rename_i hc'
              obtain ⟨hc', hl⟩ := hc'
              subst hc'
              obtain ⟨rfl, rw'⟩ := ow
              obtain ⟨a2, C2, dx2, gs2, As2, e2, h12, hh22, h32, nd, sb, kk⟩ := slot_ins (C := []) (by exact q1) (r1.up s2.ext q3) e'
              rw [e1] at e2
              cases e2
              rw [h1] at h12
              cases h12
              obtain ⟨B', z1, z2, z3⟩ := h32.put (f := f) (o := .val r) (v := w) (C := []) ⟨rfl, rw'⟩ nd
              obtain ⟨A', y1, y2, y3, _⟩ := kk _ _ B' [] z1 (by rw [List.append_nil]; exact z2) (by rw [List.append_nil]; exact z3)
              exact ⟨dx2, gs2, hh22, by rw [h32.len]; exact hl, z F2 A' _ σ (s1.trans (q2.trans y3)) y2 y1 But.refl⟩
            · exact z.elim
          · exact z.elim
        · exact m.elim
      · exact m.elim
    · exact m.elim
end

/-! ### methods, makers -/
theorem cls_of {mg : Str → Option Value} {c : Str} {C : Addr} (h : mg c = some (.ref C)) : cls mg c = some C := by
  unfold cls
  rw [h]
theorem spF_imp {mg : Gm} {n : Nat} {io : List Nat} {g : FF} {vs : List V} {H : Hp} {Q : VK} {E E' : XK} (h : spF mg n io g vs H Q E) (k : ∀ c d H, E c d H → E' c d H) : spF mg n io g vs H Q E' := by
  obtain ⟨F, A, args, gd, r, l, m⟩ := h
  exact ⟨F, A, args, gd, r, l, m.imp (fun _ z => z) fun c fs z F' H' C d s g e x => k _ _ _ (z F' H' C d s g e x)⟩
def isI (c m : Str) (env : Env) (i : Nat) : Bool := match env[i]? with
  | some (some (.ins c' fs)) => decide (c' = c) && (getF fs m).isNone
  | some (some (.val (.ins c' fs))) => decide (c' = c) && (getF fs m).isNone
  | _ => false
/-- o.m(..), o the instance of slot i -/
def fMeth (c m : Str) (g : FF) (io : List Nat) (i : Nat) (sl : List (Option Nat)) (fa : FA) : FE := fun env => if isI c m env i = true then (fa env).bind fun x => match x.2[i]? with
    | some (some o) => (g (o :: x.1)).bind fun y => (ofO (putB (some i :: sl) io y.2 (x.2.set i none))).bind fun env2 => .ok (y.1, env2)
    | _ => .stuck
  else .stuck
/-- C(..), only self comes back -/
def fMake (c : Str) (g : FF) (fa : FA) : FE := fun env => (fa env).bind fun x => (g (.ins c [] :: x.1)).bind fun y => match y.1, y.2 with
  | .val .non, [o] => .ok (o, x.2)
  | _, _ => .stuck
section
variable {X : Cx} {W : WX} {ts : List Nat} {pos : Pos} {c m : Str}
theorem isI_ok {mg : Gm} {F H : Hp} {A : List Addr} {σ : L2.St} {env : Env} {i : Nat} (g : Good F A H) (re : REnv mg F H env σ A) (h : isI c m env i = true) : ∃ a C dx gs, σ[i]? = some (some (.ref a)) ∧ cls mg.mg c = some C ∧ H a = some (.ins C dx gs) ∧ gs.lookup m = none := by
  unfold isI at h
  split at h
  · rename_i c' fs e
    simp only [Bool.and_eq_true, decide_eq_true_eq, Option.isNone_iff_eq_none] at h
    obtain ⟨h1, h2⟩ := h
    subst h1
    obtain ⟨a, C, dx, gs, As, e1, q1, q2, q3, _⟩ := slot_ins (C := []) (by exact g) re e
    exact ⟨a, C, dx, gs, e1, q1, q2, q3.get.2 h2⟩
  · rename_i c' fs e
    simp only [Bool.and_eq_true, decide_eq_true_eq, Option.isNone_iff_eq_none] at h
    obtain ⟨h1, h2⟩ := h
    subst h1
    obtain ⟨v, B, A', e1, ro, r', pm⟩ := re.take e
    obtain ⟨rfl, a, C, dx, gs, rfl, q1, q2, q3⟩ := ro
    exact ⟨a, C, dx, gs, e1, q1, g.sub _ _ q2, q3.get.2 h2⟩
  · cases h
/-- what a method call wants of exceptions -/
abbrev WN (W : WX) : XK := fun c d H => ∀ σ, W c d σ H
theorem passN (tk : Takes X W) : Passes (L2.CX X.prog X.w) X (WN W) := passes_call tk fun c d σ H h => h σ
theorem tE_meth {mg : Gm} {C : Addr} {n : Nat} {io : List Nat} {g : FF} {i : Nat} {sl : List (Option Nat)} {fa : FA} {σ : L2.St} {H : Hp} {Q : VK} (ns : NoS W) (hC : cls mg.mg c = some C) (hn : sl.length + 1 = n) (h : tE mg W (fMeth c m g io i sl fa) σ H Q) : tMeth C m (spF mg n io g) [] (WN W) (tVar i) (tA mg W sl fa) σ H Q := by
  obtain ⟨F, A, env, gd, re, mm⟩ := h
  unfold fMeth at mm
  split at mm
  case isFalse => exact mm.elim
  rename_i hi
  obtain ⟨a, C', dx, gs, e1, hC', h1, h2⟩ := isI_ok gd re hi
  rw [hC] at hC'
  cases hC'
  refine ⟨.ref a, e1, a, dx, gs, rfl, h1, h2, F, A, env, gd, re, (Run.bind mm).imp (fun x hx F1 B1 A1 H1 vs s1 g1 r1 o1 so => ?_) fun _ _ h => h⟩
  show spF mg n io g (V.ref a :: (vs ++ [])) H1 Q (WN W)
  rw [List.append_nil]
  split at hx
  · rename_i o eo
    obtain ⟨v, Bi, A2, e2, ro, r2, pm⟩ := r1.take eo
    rw [e1] at e2
    cases e2
    have pm2 : (B1 ++ A1).Perm ((Bi ++ B1) ++ A2) := by
      refine (List.Perm.append_left B1 pm).trans ?_
      rw [List.append_assoc]
      exact List.perm_append_comm_assoc B1 Bi A2
    refine spF_imp (spF_of (sl := some i :: sl) (os := o :: x.1) (vs := .ref a :: vs) (by rw [← hn]; rfl) (s1.less fun b hb => pm2.mem_iff.mpr hb) (g1.perm pm2) r2 ⟨.ref a, vs, Bi, B1, rfl, rfl, ro, o1⟩ ⟨.ref a, vs, rfl, fun j ej => by cases ej; exact e1, so⟩ hx) fun c d H z σ' => ns _ _ _ _ _ z
  · exact hx.elim
theorem je_meth {C : Addr} {k : Nat} {f : Addr} {fd : FuncData} {ps : List Str} {n : Nat} {io : List Nat} {g : FF} {o e : Expr} {es : List Expr} {apos : Pos} {i : Nat} {sl : List (Option Nat)} {fa : FA} {pl : Sem Bool} (ns : NoS W) (tk : Takes X W) (ho : PE X o (tVar i)) (hC : cls X.mg c = some C) (kc : Cls X.K C) (hm : Meth X.K C m f) (F : FnOk X.prog X.w X.K X.mg X.base (L2.CX X.prog X.w) k f fd ps (spF X.gm n io g)) (hr : Room k X.A) (hb : Binds X.K fd ps [])
    (ha : JA X W (e :: es) sl fa) (hn : sl.length + 1 = n := by rfl) (hst : starEach (e :: es) X.env = (false, eval e X.env) :: starEach es X.env := by rfl) (hpl : (backTo pos (starEach es X.env)).any (·.1) = false := by rfl)
    (ht : eval (.Call (.Attribute o m apos) (e :: es) [] pos) X.env = (do
      let ov ← eval o X.env
      standAt apos.atName
      let (f, first) ← holding [ov] (getMethod ov m pl)
      callWith pos f first (backTo pos (starEach (e :: es) X.env)) (backToKw pos (keywordEach [] X.env))) := by rfl) : JE X W (.Call (.Attribute o m apos) (e :: es) [] pos) (fMeth c m g io i sl fa) :=
  PE.imp (pe_meth ho kc hm F hr hb .nil (passN tk) ha hst hpl ht) fun _ _ _ h => tE_meth ns hC hn h
theorem je_meth0 {C : Addr} {k : Nat} {f : Addr} {fd : FuncData} {ps : List Str} {io : List Nat} {g : FF} {o : Expr} {apos : Pos} {i : Nat} {pl : Sem Bool} (ns : NoS W) (tk : Takes X W) (ho : PE X o (tVar i)) (hC : cls X.mg c = some C) (kc : Cls X.K C) (hm : Meth X.K C m f) (F : FnOk X.prog X.w X.K X.mg X.base (L2.CX X.prog X.w) k f fd ps (spF X.gm 1 io g)) (hr : Room k X.A) (hb : Binds X.K fd ps [])
    (ht : eval (.Call (.Attribute o m apos) [] [] pos) X.env = (do
      let ov ← eval o X.env
      standAt apos.atName
      let (f, first) ← holding [ov] (getMethod ov m pl)
      callWith pos f first (backTo pos (starEach [] X.env)) (backToKw pos (keywordEach [] X.env))) := by rfl) : JE X W (.Call (.Attribute o m apos) [] [] pos) (fMeth c m g io i [] fA0) :=
  PE.imp (pe_meth0 ho kc hm F hr hb .nil (passN tk) ht) fun σ H Q h => by
    have h2 := tE_meth (n := 1) ns hC rfl h
    obtain ⟨v, e1, a, dx, gs, rfl, q1, q2, F, A, env, gd, re, mm⟩ := h2
    exact ⟨_, e1, a, dx, gs, rfl, q1, q2, mm F [] A H [] Step.refl gd re ⟨rfl, rfl⟩ rfl⟩
theorem tE_make {mg : Gm} {C : Addr} {n : Nat} {g : FF} {sl : List (Option Nat)} {fa : FA} {σ : L2.St} {H : Hp} {Q : VK} (ns : NoS W) (hC : cls mg.mg c = some C) (hn : sl.length + 1 = n) (h : tE mg W (fMake c g fa) σ H Q) : tMake C (spF mg n [0] g) [] (WN W) (tA mg W sl fa) σ H Q := by
  obtain ⟨F, A, env, gd, re, mm⟩ := h
  refine ⟨F, A, env, gd, re, (Run.bind mm).imp (fun y hx F1 B1 A1 H1 vs s1 g1 r1 o1 so x dx hx1 hdx hne => ?_) fun _ _ h => h⟩
  rw [List.append_nil]
  -- the new instance and its dict
  obtain ⟨t1, u1⟩ := new_step (o := .own x) (good_nil g1) hdx
  have hx2 : upd H1 dx (.own x) x = none := by rw [upd_ne (Ne.symm hne)]; exact hx1
  obtain ⟨v1, v2, v3⟩ := t1.aside g1 u1
  obtain ⟨t2, u2⟩ := new_step (o := .ins C dx []) (good_nil v1) hx2
  obtain ⟨w1, w2, w3⟩ := t2.aside v1 u2
  have hd2 : upd (upd H1 dx (.own x)) x (.ins C dx []) dx = some (.own x) := by rw [upd_ne hne]; exact upd_same
  have o2 : RepOs mg F1 (upd (upd H1 dx (.own x)) x (.ins C dx [])) y.1 vs B1 := o1.up (fun _ _ z => z) fun a ha o e => w3 a (List.mem_append_right _ (List.mem_append_left _ ha)) o (v3 a (List.mem_append_left _ ha) o e)
  have w1' : Good F1 ((x :: dx :: B1) ++ A1) (upd (upd H1 dx (.own x)) x (.ins C dx [])) := by
    have : ([x] ++ ([dx] ++ (B1 ++ A1))) = ((x :: dx :: B1) ++ A1) := by simp
    rw [← this]
    exact w1
  have st : Step F1 (B1 ++ A1) H1 F1 ((x :: dx :: B1) ++ A1) (upd (upd H1 dx (.own x)) x (.ins C dx [])) := by
    have : ([x] ++ ([dx] ++ (B1 ++ A1))) = ((x :: dx :: B1) ++ A1) := by simp
    rw [← this]
    exact v2.trans w2
  refine ⟨F1, x :: dx :: B1, .ins c [] :: y.1, w1'.left, ⟨.ref x, vs, [x, dx], B1, rfl, rfl, ⟨x, C, dx, [], [], rfl, hC, upd_same, hd2, rfl, rfl, rfl⟩, o2⟩, ?_, (Run.bind hx).imp (fun z hz F2 B2 A2 H2 v s2 g2 r2 ro2 => ?_) fun c fs hq F2 H2 C d s2 g2 ec xd σ' => ?_⟩
  · rw [← hn, List.length_cons, ← o1.len, so.len]
  · obtain ⟨zo, zs⟩ := z
    dsimp only at hz r2 ro2
    split at hz
    · rename_i o
      obtain ⟨rfl, rv⟩ := r2
      obtain ⟨v', vs', A3, A4, e1, e2, q1, q2⟩ := ro2
      have e1' : [V.ref x] = v' :: vs' := e1
      cases e1'
      obtain ⟨_, rfl⟩ := q2
      subst e2
      rw [List.append_nil] at g2 s2
      refine ⟨rv, ?_⟩
      -- beside the slots
      have gp : Good F1 (A1 ++ (x :: dx :: B1)) (upd (upd H1 dx (.own x)) x (.ins C dx [])) := w1'.perm List.perm_append_comm
      obtain ⟨k1, k2, k3⟩ := s2.beside gp (by exact g2)
      have k1' : Good F2 (A3 ++ A1) H2 := k1.perm List.perm_append_comm
      refine hz F2 A3 A1 H2 (.ref x) (s1.trans (st.trans ((k2.more fun a ha => ?_).less fun a ha => ?_))) k1' (r1.up s2.ext fun a ha o e => k3 a ha o (w3 a (List.mem_append_right _ (List.mem_append_right _ ha)) o (v3 a (List.mem_append_right _ ha) o e))) q1
      · rcases List.mem_append.mp ha with z | z
        · exact List.mem_append_right _ z
        · exact List.mem_append_left _ z
      · rcases List.mem_append.mp ha with z | z
        · exact List.mem_append_right _ z
        · exact List.mem_append_left _ z
    · exact hz.elim
  · refine ns _ _ σ _ _ (hq F2 H2 C d (s1.trans (st.trans (s2.more fun a ha => List.mem_append_left _ ha))) g2 ec xd)
theorem je_make {C : Addr} {k : Nat} {f : Addr} {fd : FuncData} {ps : List Str} {n : Nat} {g : FF} {p : Pos} {e : Expr} {es : List Expr} {sl : List (Option Nat)} {fa : FA} (ns : NoS W) (tk : Takes X W) (M : Mk X.K C f) (F : FnOk X.prog X.w X.K X.mg X.base (L2.CX X.prog X.w) k f fd ps (spF X.gm n [0] g)) (hr : Room (k + 1) X.A) (hg : Gl X c) (hm : X.mg c = some (.ref C)) (hb : Binds X.K fd ps [])
    (ha : JA X W (e :: es) sl fa) (hn : sl.length + 1 = n := by rfl) (hdb : (c == ("__debug__" : Str)) = false := by decide) (he : starEach (e :: es) X.env = (false, eval e X.env) :: starEach es X.env := by rfl) (hpl : (backTo pos (starEach es X.env)).any (·.1) = false := by rfl) : JE X W (.Call (.Name c p) (e :: es) [] pos) (fMake c g fa) :=
  PE.imp (pe_make M F hr hg hm hb .nil (passN tk) ha hdb he hpl) fun _ _ _ h => tE_make ns (cls_of hm) hn h
theorem je_make0 {C : Addr} {k : Nat} {f : Addr} {fd : FuncData} {ps : List Str} {g : FF} {p : Pos} (ns : NoS W) (tk : Takes X W) (M : Mk X.K C f) (F : FnOk X.prog X.w X.K X.mg X.base (L2.CX X.prog X.w) k f fd ps (spF X.gm 1 [0] g)) (hr : Room (k + 1) X.A) (hg : Gl X c) (hm : X.mg c = some (.ref C)) (hb : Binds X.K fd ps [])
    (hdb : (c == ("__debug__" : Str)) = false := by decide) : JE X W (.Call (.Name c p) [] [] pos) (fMake c g fA0) :=
  PE.imp (pe_make0 M F hr hg hm hb .nil (passN tk) hdb) fun σ H Q h => by
    have h2 := tE_make (sl := []) (n := 1) (C := C) ns (cls_of hm) rfl h
    obtain ⟨F, A, env, gd, re, mm⟩ := h2
    exact mm F [] A H [] Step.refl gd re ⟨rfl, rfl⟩ rfl

/-! ### raise, try -/
def fRaise (c : Str) : FS := fun _ => .exc c []
theorem js_raise {B newId initId : String} {bmB : List Value} {C : Addr} {mt : Str} {j : Nat} {p p2 pos2 : Pos} (hc : X.calm = true) (tk : Takes X W) (F : ExcBaseFacts B newId initId bmB) (q : PySem.W.excIn X.K C bmB newId = true) (gC : X.mg c = some (.ref C)) (kC : PySem.W.keepIn X.K (.ref C) = true) (r : Raises X (.ref C)) (hg : Gl X c) (hdb : (c == ("__debug__" : Str)) = false := by decide) :
    JS X W ts (.Raise (some (.Call (.Name c p) [.Constant (.str mt) j p2] [] pos2)) none pos) (fRaise c) :=
  PS.imp (ps_raise hc tk (pmk_own F q gC kC r hg hdb)) fun D σ H ⟨F, A, env, g, re, m⟩ => by
    have m' : PostX X.gm W F A H σ c [] := m
    exact m' F H C none (Step.refl.less fun a ha => nomatch ha) (good_nil g) (cls_of gC) (.inl ⟨rfl, rfl⟩)
def deadE (env : Env) : Env := env.map fun s => match s with
  | some (.val p) => some (.val p)
  | _ => none
/-- try: body except ..: suite; caught: which classes the clause takes -/
def fTry (caught : Str → Option Bool) (fb fs : FS) : FS := fun env => match fb env with
  | .exc c args => (match caught c with
    | some true => noX (fs (deadE env))
    | some false => .exc c args
    | none => .stuck)
  | r => r
theorem REnv.dead {mg : Gm} {F H : Hp} : ∀ {env : Env} {σ : L2.St} {A : List Addr}, REnv mg F H env σ A → REnv mg F H (deadE env) σ []
  | [], _, _, h => ⟨h.1, rfl⟩
  | none :: l, _, _, h => by
    obtain ⟨s, σ', rfl, h2⟩ := h
    exact ⟨s, σ', rfl, REnv.dead h2⟩
  | some (.val p) :: l, _, _, h => by
    obtain ⟨v, vs', A1, A2, rfl, rfl, h2, h3⟩ := h
    exact ⟨v, vs', [], [], rfl, rfl, ⟨rfl, h2.2⟩, REnv.dead h3⟩
  | some (.lst _) :: l, _, _, h => by
    obtain ⟨v, vs', A1, A2, rfl, rfl, h2, h3⟩ := h
    exact ⟨some v, vs', rfl, REnv.dead h3⟩
  | some (.dct _) :: l, _, _, h => by
    obtain ⟨v, vs', A1, A2, rfl, rfl, h2, h3⟩ := h
    exact ⟨some v, vs', rfl, REnv.dead h3⟩
  | some (.ins _ _) :: l, _, _, h => by
    obtain ⟨v, vs', A1, A2, rfl, rfl, h2, h3⟩ := h
    exact ⟨some v, vs', rfl, REnv.dead h3⟩
  | some (.dtt _) :: l, _, _, h => by
    obtain ⟨v, vs', A1, A2, rfl, rfl, h2, h3⟩ := h
    exact ⟨some v, vs', rfl, REnv.dead h3⟩
theorem Run.noX' {α : Type} {r : Res α} {P : α → Prop} {E E' : Str → List (Str × PV) → Prop} (h : Run (Ev.noX r) P E) : Run r P E' := by
  cases r with
  | ok a => exact h
  | exc c fs => exact h.elim
  | stuck => exact h.elim
theorem js_try {x : Str} {cX : Value} {body suite : List Stmt} {b₀ : Stmt} {np pos' : Pos} {caught : Str → Option Bool} {fb fs : FS} (hs : X.stack = X.env :: X.outer) (hf : X.env.frame = some X.env.locals) (hc : Names X x cX) (tk : Takes X W)
    (hca : ∀ c b C, caught c = some b → cls X.mg c = some C → PySem.W.exmOne X.K (.ref C) cX = some b)
    (hb : ∀ (W' : WX) (pn : List (Addr × Obj)) (xe : Value → Shared → Prop), Takes (X.tr pn xe) W' → PassesOwn (model X.prog X.w) X.A X.env xe → JSs (X.tr pn xe) W' ts body fb)
    (hsu : ∀ (a : Addr) (pn : List (Addr × Obj)), JSs (X.suite a pn) W0 ts (b₀ :: suite) fs) :
    JS X W ts (.Try body [.ExceptHandler (some (.Name x np)) none (b₀ :: suite) pos'] [] [] pos) (fTry caught fb fs) :=
  PS.imp (ps_try_only (tb := fun W' => tS X.gm W' ts fb) (ts := fun _ _ _ => tS X.gm W0 ts fs) (Wout := W) hs hf hc tk hb (fun a oe cls d pn _ _ => hsu a _)) fun D σ H ⟨F, A, env, g, re, m⟩ => by
    refine ⟨F, A, env, g, re, ?_⟩
    unfold fTry at m
    cases q : fb env with
    | ok y => rw [q] at m; exact m
    | stuck => rw [q] at m; exact m
    | exc c args =>
      rw [q] at m
      dsimp only at m
      intro F' H' C d s g' ec xd
      cases qc : caught c with
      | none => rw [qc] at m; exact m.elim
      | some b =>
        rw [qc] at m
        refine ⟨b, hca c b C qc ec, fun hb a ha => ?_, fun hb => ?_⟩
        · subst hb
          refine ⟨F', [], deadE env, g', ?_, (Run.noX' m).imp (fun y hy => PostS.step hy s But.refl) fun _ _ h => h⟩
          exact (re.dead).up s.ext fun a ha => nomatch ha
        · subst hb
          have m' : PostX X.gm W F A H σ c args := m
          exact m' F' H' C d s g' ec xd
end
end Ev

/-! # Ev 13: a dict walked; short names -/
namespace Ev
open PySem L2

/-! ### a frozen part whose dicts may be locked or unlocked -/
def Lk (F G : Hp) : Prop := ∀ b o, F b = some o → G b = some o ∨ ∃ kvs, Rd F b (.dK kvs) ∧ Rd G b (.dK kvs)
section
variable {mg : Gm} {F G H H' : Hp}
theorem Lk.plain (k : Lk F G) {b : Addr} {o : HO} (h : F b = some o) (n1 : ∀ kvs, o ≠ .dK kvs) (n2 : ∀ od kvs, o ≠ .frz od (.dK kvs)) : G b = some o := by
  rcases k b o h with z | ⟨kvs, z | ⟨od, z⟩, _⟩
  · exact z
  · rw [h] at z; exact absurd (Option.some.inj z) (n1 _)
  · rw [h] at z; exact absurd (Option.some.inj z) (n2 _ _)
theorem Lk.dk (k : Lk F G) {b : Addr} {kvs : List (Key × V)} (h : Rd F b (.dK kvs)) : Rd G b (.dK kvs) := by
  rcases h with h | ⟨od, h⟩
  · rcases k b _ h with z | ⟨kvs', z | ⟨od', z⟩, w⟩
    · exact .inl z
    · rw [h] at z; cases z; exact w
    · rw [h] at z; cases z
  · rcases k b _ h with z | ⟨kvs', z | ⟨od', z⟩, w⟩
    · exact .inr ⟨od, z⟩
    · rw [h] at z; cases z
    · rw [h] at z; cases z; exact w
mutual
theorem Rep.lk (k : Lk F G) : ∀ {p : PV} {v : V}, Rep mg F p v → Rep mg G p v
  | .non, v, h => h
  | .bl _, v, h => h
  | .int _, v, h => h
  | .str _, v, h => h
  | .tup l, v, h => by
    obtain ⟨a, vs, h1, h2, h3⟩ := h
    exact ⟨a, vs, h1, k.plain h2 (fun _ z => nomatch z) (fun _ _ z => nomatch z), Reps.lk k h3⟩
  | .lst l, v, h => by
    obtain ⟨a, vs, h1, h2, h3⟩ := h
    exact ⟨a, vs, h1, k.plain h2 (fun _ z => nomatch z) (fun _ _ z => nomatch z), Reps.lk k h3⟩
  | .dct l, v, h => by
    obtain ⟨a, vs, h1, h2, h3⟩ := h
    exact ⟨a, vs, h1, k.dk h2, RepKs.lk k h3⟩
  | .ins c fs, v, h => by
    obtain ⟨a, C, dx, gs, h1, h2, h3, h4⟩ := h
    exact ⟨a, C, dx, gs, h1, h2, k.plain h3 (fun _ z => nomatch z) (fun _ _ z => nomatch z), RepFs.lk k h4⟩
  | .scr ns, v, h => by
    obtain ⟨a, h1, h2⟩ := h
    refine ⟨a, h1, ?_⟩
    rcases h2 with (h | ⟨o, h⟩) | h
    · exact .inl (.inl (k.plain h (fun _ z => nomatch z) (fun _ _ z => nomatch z)))
    · exact .inl (.inr ⟨o, k.plain h (fun _ z => nomatch z) (fun _ _ z => nomatch z)⟩)
    · exact .inr h
  | .dtt l, v, h => by
    obtain ⟨a, h1, h2⟩ := h
    refine ⟨a, h1, ?_⟩
    rcases h2 with h | ⟨o, h⟩
    · exact .inl (k.plain h (fun _ z => nomatch z) (fun _ _ z => nomatch z))
    · exact .inr ⟨o, k.plain h (fun _ z => nomatch z) (fun _ _ z => nomatch z)⟩
theorem Reps.lk (k : Lk F G) : ∀ {l : List PV} {vs : List V}, Reps mg F l vs → Reps mg G l vs
  | [], _, h => h
  | p :: l, _, h => by
    obtain ⟨v, vs', h1, h2, h3⟩ := h
    exact ⟨v, vs', h1, Rep.lk k h2, Reps.lk k h3⟩
theorem RepKs.lk (k : Lk F G) : ∀ {l : List (PV × PV)} {vs : List (Key × V)}, RepKs mg F l vs → RepKs mg G l vs
  | [], _, h => h
  | (q, p) :: l, _, h => by
    obtain ⟨q, v, vs', h1, h2, h3, h4⟩ := h
    exact ⟨q, v, vs', h1, h2, Rep.lk k h3, RepKs.lk k h4⟩
theorem RepFs.lk (k : Lk F G) : ∀ {l : List (Str × PV)} {vs : List (Str × V)}, RepFs mg F l vs → RepFs mg G l vs
  | [], _, h => h
  | (f, p) :: l, _, h => by
    obtain ⟨v, vs', h1, h2, h3⟩ := h
    exact ⟨v, vs', h1, Rep.lk k h2, RepFs.lk k h3⟩
end
mutual
theorem RepO.lk (e : Lk F G) : ∀ {p : OV} {v : V} {A : List Addr}, (∀ a ∈ A, ∀ o, H a = some o → H' a = some o) → RepO mg F H p v A → RepO mg G H' p v A
  | .val p, v, A, k, h => ⟨h.1, Rep.lk e h.2⟩
  | .lst l, v, A, k, h => by
    obtain ⟨a, vs, As, h1, h2, rfl, h3⟩ := h
    exact ⟨a, vs, As, h1, k _ (List.mem_cons_self) _ h2, rfl, RepOs.lk e (fun b hb => k b (List.mem_cons_of_mem _ hb)) h3⟩
  | .dct l, v, A, k, h => by
    obtain ⟨a, vs, As, h1, h2, rfl, h3⟩ := h
    exact ⟨a, vs, As, h1, k _ (List.mem_cons_self) _ h2, rfl, RepOKs.lk e (fun b hb => k b (List.mem_cons_of_mem _ hb)) h3⟩
  | .ins c fs, v, A, k, h => by
    obtain ⟨a, C, dx, gs, As, h1, h2, h3, h5, rfl, h4⟩ := h
    exact ⟨a, C, dx, gs, As, h1, h2, k _ (List.mem_cons_self) _ h3, k _ (List.mem_cons_of_mem _ List.mem_cons_self) _ h5, rfl, RepOFs.lk e (fun b hb => k b (List.mem_cons_of_mem _ (List.mem_cons_of_mem _ hb))) h4⟩
  | .dtt l, v, A, k, h => by
    obtain ⟨a, h1, h2, rfl⟩ := h
    exact ⟨a, h1, k _ List.mem_cons_self _ h2, rfl⟩
theorem RepOs.lk (e : Lk F G) : ∀ {l : List OV} {vs : List V} {A : List Addr}, (∀ a ∈ A, ∀ o, H a = some o → H' a = some o) → RepOs mg F H l vs A → RepOs mg G H' l vs A
  | [], _, _, k, h => h
  | p :: l, _, _, k, h => by
    obtain ⟨v, vs', A1, A2, h1, rfl, h2, h3⟩ := h
    exact ⟨v, vs', A1, A2, h1, rfl, RepO.lk e (fun b hb => k b (List.mem_append_left _ hb)) h2, RepOs.lk e (fun b hb => k b (List.mem_append_right _ hb)) h3⟩
theorem RepOKs.lk (e : Lk F G) : ∀ {l : List (PV × OV)} {vs : List (Key × V)} {A : List Addr}, (∀ a ∈ A, ∀ o, H a = some o → H' a = some o) → RepOKs mg F H l vs A → RepOKs mg G H' l vs A
  | [], _, _, k, h => h
  | (q, p) :: l, _, _, k, h => by
    obtain ⟨q, v, vs', A1, A2, h1, rfl, hq, h2, h3⟩ := h
    exact ⟨q, v, vs', A1, A2, h1, rfl, hq, RepO.lk e (fun b hb => k b (List.mem_append_left _ hb)) h2, RepOKs.lk e (fun b hb => k b (List.mem_append_right _ hb)) h3⟩
theorem RepOFs.lk (e : Lk F G) : ∀ {l : List (Str × OV)} {vs : List (Str × V)} {A : List Addr}, (∀ a ∈ A, ∀ o, H a = some o → H' a = some o) → RepOFs mg F H l vs A → RepOFs mg G H' l vs A
  | [], _, _, k, h => h
  | (f, p) :: l, _, _, k, h => by
    obtain ⟨v, vs', A1, A2, h1, rfl, h2, h3⟩ := h
    exact ⟨v, vs', A1, A2, h1, rfl, RepO.lk e (fun b hb => k b (List.mem_append_left _ hb)) h2, RepOFs.lk e (fun b hb => k b (List.mem_append_right _ hb)) h3⟩
end
theorem REnv.lk (e : Lk F G) : ∀ {env : Env} {σ : L2.St} {A : List Addr}, (∀ a ∈ A, ∀ o, H a = some o → H' a = some o) → REnv mg F H env σ A → REnv mg G H' env σ A
  | [], _, _, k, h => h
  | none :: l, _, _, k, h => by
    obtain ⟨s, σ', h1, h2⟩ := h
    exact ⟨s, σ', h1, REnv.lk e k h2⟩
  | some o :: l, _, _, k, h => by
    obtain ⟨v, vs', A1, A2, h1, rfl, h2, h3⟩ := h
    exact ⟨v, vs', A1, A2, h1, rfl, RepO.lk e (fun b hb => k b (List.mem_append_left _ hb)) h2, REnv.lk e (fun b hb => k b (List.mem_append_right _ hb)) h3⟩
/-- a frozen dict changes its lock -/
theorem lk_upd {a : Addr} {kvs : List (Key × V)} {u u' : HO} (h : F a = some u) (r1 : Rd F a (.dK kvs)) (r2 : Rd (upd F a u') a (.dK kvs)) : Lk F (upd F a u') := fun b o e => by
  by_cases q : b = a
  · subst q; exact .inr ⟨kvs, r1, r2⟩
  · exact .inl (by rw [upd_ne q]; exact e)
theorem Good.lk {A : List Addr} {a : Addr} {u : HO} (g : Good F A H) (h : F a ≠ none) : Good (upd F a u) A (upd H a u) := by
  have na : ∀ b ∈ A, b ≠ a := fun b hb z => h (z ▸ g.dis b hb)
  refine ⟨fun b o e => ?_, g.nd, fun b hb => by rw [upd_ne (na b hb)]; exact g.dis b hb, fun b hb => by rw [upd_ne (na b hb)]; exact g.tr b hb⟩
  by_cases q : b = a
  · subst q; rw [upd_same] at e ⊢; exact e
  · rw [upd_ne q] at e ⊢; exact g.sub b o e
end

/-- for k in d, d the dict of slot i -/
def fForD (i : Nat) (bind : FG) (fb : FS) : FS := fun env => match env[i]? with
  | some (some o) => (match fz o with
    | .dct l => fLoop bind (fun e => noX (fb e)) (l.map (·.1)) (env.set i (some (.val (fz o))))
    | _ => .stuck)
  | _ => .stuck
theorem noX_exc {α : Type} {r : Res α} {c : Str} {fs : List (Str × PV)} : noX r ≠ .exc c fs := fun h => by
  cases r <;> cases h
theorem loop_exc {bind : FG} {fb : FS} : ∀ {l : List PV} {env : Env} {c : Str} {fs : List (Str × PV)}, fLoop bind (fun e => noX (fb e)) l env ≠ .exc c fs
  | [], env, c, fs, h => by cases h
  | p :: l, env, c, fs, h => by
    unfold fLoop at h
    cases q : bind (.val p) env with
    | none => rw [q] at h; cases h
    | some env1 =>
      rw [q] at h
      have h' : (noX (fb env1)).bind _ = Res.exc c fs := h
      cases q2 : noX (fb env1) with
      | exc c fs => exact noX_exc q2
      | stuck => rw [q2] at h'; cases h'
      | ok y =>
        rw [q2] at h'
        obtain ⟨fl, env2⟩ := y
        cases fl with
        | nx => exact loop_exc h'
        | ct => exact loop_exc h'
        | bk => cases h'
        | rt o => cases h'
section
variable {X : Cx} {W : WX} {ts : List Nat} {pos : Pos}
theorem PS.or {s : Stmt} {t t' : TS} (h : PS X s t) (h' : PS X s t') : PS X s (fun D σ H => t D σ H ∨ t' D σ H) := ⟨fun pins s σ H D I w => by
  rcases w with w | w
  · exact h.run pins s σ H D I w
  · exact h'.run pins s σ H D I w⟩
theorem serves_k {mg : Gm} {F : Hp} {a : Addr} {od : Obj} {kvs : List (Key × V)} {l : List (PV × PV)} (h : F a = some (.frz od (.dK kvs))) (r : RepKs mg F l kvs) : Serves mg F (Itk a od kvs) (l.map (·.1)) where
  go := fun H i sub hi => ⟨sub _ _ h, by rw [r.len]; simpa using hi⟩
  stop := fun H i sub hi => ⟨sub _ _ h, by rw [r.len]; simpa using hi⟩
  yld := fun H i x H' sub hi y => by
    obtain ⟨e, k, v, hk, rfl⟩ := y
    refine ⟨e, ?_⟩
    have aux : ∀ (l : List (PV × PV)) (kvs : List (Key × V)) (i : Nat), RepKs mg F l kvs → kvs[i]? = some (k, v) → (l.map (·.1))[i]? = some (kP k) := by
      intro l
      induction l with
      | nil => intro kvs i r e; rw [show kvs = [] from r] at e; simp at e
      | cons q l ih =>
        intro kvs i r e
        obtain ⟨q1, q2⟩ := q
        obtain ⟨k', v', kvs', rfl, hq, _, h2⟩ := r
        cases i with
        | zero =>
          have e' : (k', v') = (k, v) := by simpa using e
          cases e'
          rw [hq]
          rfl
        | succ i => simpa using ih kvs' i h2 (by simpa using e)
    refine ⟨kP k, aux l kvs i r hk, ?_⟩
    cases k with
    | inl i => rfl
    | inr s => rfl
theorem tS_noX {mg : Gm} {fb : FS} {D : Ends} {σ : L2.St} {H : Hp} (h : tS mg W ts (fun e => noX (fb e)) D σ H) : tS mg W ts fb D σ H := by
  obtain ⟨F, A, env, gd, re, m⟩ := h
  exact ⟨F, A, env, gd, re, Run.noX' m⟩
theorem js_forD {tg iter : Expr} {body : List Stmt} {i : Nat} {g : FG} {fb : FS} (n : NoS W) (hp : PassesOwn (model X.prog X.w) X.A X.env X.xe) (hc : X.calm = true) (hi : PE X iter (tVar i)) (hg : JG X ts tg g) (hb : JSs X W ts body fb)
    (hs : ∀ x, foldedSetIterable iter X.env x = pure x := by intro _; rfl) : JS X W ts (.For tg iter body [] pos) (fForD i g fb) :=
  PS.imp (PS.or (ps_lock (ps_for hp hc (pi_keys hi) hg hb hs)) (ps_for hp hc (pi_keys hi) hg hb hs)) fun D σ H h => by
    obtain ⟨F, A, env, gd, re, m⟩ := h
    unfold fForD at m
    split at m
    case h_2 => exact m.elim
    rename_i o ho
    obtain ⟨v, F1, A1, e1, rp, g1, s1, r1⟩ := slot_ice gd re ho
    generalize hq : fz o = q at m rp r1
    cases q with
    | dct l =>
      obtain ⟨a, kvs, rfl, hrd, hks⟩ := rp
      -- the loop, over a locked dict
      have loop : ∀ (F2 : Hp) (H2 : Hp) (D2 : Ends) (od : Obj), Good F2 A1 H2 → REnv X.gm F2 H2 (env.set i (some (.val (.dct l)))) σ A1 → F2 a = some (.frz od (.dK kvs)) → RepKs X.gm F2 l kvs →
          Run (fLoop g (fun e => noX (fb e)) (l.map (·.1)) (env.set i (some (.val (.dct l))))) (PostS X.gm F2 A1 H2 σ ts D2) (fun _ _ => True) →
          tFor (iKeys (tVar i)) (tG X.gm ts g) (tS X.gm W ts fb) D2 σ H2 := fun F2 H2 D2 od g2 r2 ha hk run => by
        refine ⟨.ref a, e1, a, od, rfl, .inl ⟨kvs, g2.sub a _ ha, ?_⟩⟩
        obtain ⟨Wt, w0, w1⟩ := for_core (mg := X.gm) (W := W) (ts := ts) (g := g) (fb := fun e => noX (fb e)) (D := D2) n g2 r2 (serves_k ha hk) (by
          generalize hr : fLoop g (fun e => noX (fb e)) (l.map (·.1)) (env.set i (some (.val (.dct l)))) = r at run
          cases r with
          | ok x => exact run
          | stuck => exact run.elim
          | exc c fs => exact (loop_exc hr).elim)
        refine ⟨Wt, w0, fun i m σ H z => ?_⟩
        rcases w1 i m σ H z with z | ⟨z1, N, z2, z3⟩
        · exact .inl z
        · refine .inr ⟨z1, N, z2, fun x H' y => ?_⟩
          obtain ⟨F, A, vs, env, p, q1, q2, q4, q3⟩ := z3 x H' y
          exact ⟨F, A, vs, env, p, q1, q2, q4, q3.imp fun w hw F5 A5 H5 σ5 b1 b2 b3 b4 => tS_noX (hw F5 A5 H5 σ5 b1 b2 b3 b4)⟩
      rcases hrd with hrd | ⟨od, hrd⟩
      · left
        have nf : F1 a ≠ none := fun z => by rw [hrd] at z; cases z
        refine ⟨a, .dK kvs, g1.sub a _ hrd, trivial, fun od => ?_⟩
        have lk : Lk F1 (upd F1 a (.frz od (.dK kvs))) := lk_upd hrd (.inl hrd) (.inr ⟨od, upd_same⟩)
        have g2 := g1.lk (u := .frz od (.dK kvs)) nf
        have na : ∀ b ∈ A1, b ≠ a := fun b hb z => nf (z ▸ g1.dis b hb)
        refine loop _ _ _ od g2 (REnv.lk lk (fun b hb o e => by rw [upd_ne (na b hb)]; exact e) r1) upd_same (RepKs.lk lk hks) ?_
        refine Run.imp m (fun x hx => ?_) fun _ _ _ => trivial
        -- back to the unlocked heaps
        have back : ∀ {F4 A4 H4}, Step (upd F1 a (.frz od (.dK kvs))) A1 (upd H a (.frz od (.dK kvs))) F4 A4 H4 → Good F4 A4 H4 → H4 a = some (.frz od (.dK kvs)) ∧ F4 a = some (.frz od (.dK kvs)) ∧ Step F A H (upd F4 a (.dK kvs)) A4 (upd H4 a (.dK kvs)) ∧ Good (upd F4 a (.dK kvs)) A4 (upd H4 a (.dK kvs)) ∧ Lk F4 (upd F4 a (.dK kvs)) ∧ ∀ b ∈ A4, b ≠ a := fun {F4 A4 H4} s4 g4 => by
          have f4 : F4 a = some (.frz od (.dK kvs)) := s4.ext a _ upd_same
          have n4 : F4 a ≠ none := fun z => by rw [f4] at z; cases z
          refine ⟨g4.sub a _ f4, f4, s1.trans ⟨fun b o e => ?_, fun b o e nb => ?_, fun b e1 e2 => ?_, fun b hb => ?_, fun b e => ?_⟩, g4.lk n4, lk_upd f4 (.inr ⟨od, f4⟩) (.inl upd_same), fun b hb z => n4 (z ▸ g4.dis b hb)⟩
          · by_cases q : b = a
            · subst q; rw [hrd] at e; cases e; exact upd_same
            · rw [upd_ne q]; exact s4.ext b o (by rw [upd_ne q]; exact e)
          · by_cases q : b = a
            · subst q; rw [g1.sub _ _ hrd] at e; cases e; exact upd_same
            · rw [upd_ne q]; exact s4.frame b o (by rw [upd_ne q]; exact e) nb
          · by_cases q : b = a
            · subst q; exact absurd e2 nf
            · rw [upd_ne q] at e1
              have := s4.newF b e1 (by rw [upd_ne q]; exact e2)
              rwa [upd_ne q] at this
          · have := s4.newA b hb
            by_cases q : b = a
            · subst q; exact absurd (g4.dis b hb) n4
            · rwa [upd_ne q] at this
          · by_cases q : b = a
            · subst q; rw [upd_same]; exact fun z => nomatch z
            · rw [upd_ne q]; exact s4.stay b (by rw [upd_ne q]; exact e)
        obtain ⟨fl, env2⟩ := x
        cases fl with
        | nx =>
          intro F4 A4 H4 σ4 s4 g4 r4 b4
          obtain ⟨h4, f4, s5, g5, l5, n5⟩ := back s4 g4
          exact ⟨h4, hx _ _ _ σ4 s5 g5 (REnv.lk l5 (fun b hb o e => by rw [upd_ne (n5 b hb)]; exact e) r4) b4⟩
        | bk =>
          intro F4 A4 H4 σ4 s4 g4 r4 b4
          obtain ⟨h4, f4, s5, g5, l5, n5⟩ := back s4 g4
          exact ⟨h4, hx _ _ _ σ4 s5 g5 (REnv.lk l5 (fun b hb o e => by rw [upd_ne (n5 b hb)]; exact e) r4) b4⟩
        | ct =>
          intro F4 A4 H4 σ4 s4 g4 r4 b4
          obtain ⟨h4, f4, s5, g5, l5, n5⟩ := back s4 g4
          exact ⟨h4, hx _ _ _ σ4 s5 g5 (REnv.lk l5 (fun b hb o e => by rw [upd_ne (n5 b hb)]; exact e) r4) b4⟩
        | rt o =>
          intro F4 B4 A4 H4 σ4 v s4 g4 r4 b4 ro
          obtain ⟨h4, f4, s5, g5, l5, n5⟩ := back s4 g4
          exact ⟨h4, hx _ B4 A4 _ σ4 v s5 g5 (REnv.lk l5 (fun b hb o e => by rw [upd_ne (n5 b (List.mem_append_right _ hb))]; exact e) r4) b4 (RepO.lk l5 (fun b hb o e => by rw [upd_ne (n5 b (List.mem_append_left _ hb))]; exact e) ro)⟩
      · right
        refine loop F1 H D od g1 r1 hrd hks (m.imp (fun x hx => PostS.step hx s1 But.refl) fun _ _ _ => trivial)
    | _ => exact m.elim
end
end Ev

/-! # Ev 14: short names; a method of a value; written tuples; chains -/
namespace Ev
open PySem L2

def isIv (c m : Str) : OV → Bool
  | .ins c' fs => decide (c' = c) && (getF fs m).isNone
  | .val (.ins c' fs) => decide (c' = c) && (getF fs m).isNone
  | _ => false
/-- e.m(..), e any expression -/
def fMethE (c m : Str) (g : FF) (io : List Nat) (sl : List (Option Nat)) (f : FE) (fa : FA) : FE := fun env => (f env).bind fun x => if isIv c m x.1 = true then (fa x.2).bind fun y => (g (x.1 :: y.1)).bind fun z => (ofO (putB (none :: sl) io z.2 y.2)).bind fun env2 => .ok (z.1, env2)
  else .stuck
theorem isIv_ok {c m : Str} {mg : Gm} {F H : Hp} {B : List Addr} {o : OV} {v : V} (sub : ∀ a u, F a = some u → H a = some u) (r : RepO mg F H o v B) (h : isIv c m o = true) : ∃ a C dx gs, v = .ref a ∧ cls mg.mg c = some C ∧ H a = some (.ins C dx gs) ∧ gs.lookup m = none := by
  unfold isIv at h
  split at h
  · rename_i c' fs
    simp only [Bool.and_eq_true, decide_eq_true_eq, Option.isNone_iff_eq_none] at h
    obtain ⟨h1, h2⟩ := h
    subst h1
    obtain ⟨a, C, dx, gs, As, rfl, q1, q2, q3, _, q5⟩ := r
    exact ⟨a, C, dx, gs, rfl, q1, q2, q5.get.2 h2⟩
  · rename_i c' fs
    simp only [Bool.and_eq_true, decide_eq_true_eq, Option.isNone_iff_eq_none] at h
    obtain ⟨h1, h2⟩ := h
    subst h1
    obtain ⟨rfl, a, C, dx, gs, rfl, q1, q2, q3⟩ := r
    exact ⟨a, C, dx, gs, rfl, q1, sub _ _ q2, q3.get.2 h2⟩
  · cases h
section
variable {X : Cx} {W : WX} {ts : List Nat} {pos : Pos} {c m : Str}
theorem tE_methE {mg : Gm} {C : Addr} {n : Nat} {io : List Nat} {g : FF} {sl : List (Option Nat)} {f : FE} {fa : FA} {σ : L2.St} {H : Hp} {Q : VK} (ns : NoS W) (hC : cls mg.mg c = some C) (hn : sl.length + 1 = n) (h : tE mg W (fMethE c m g io sl f fa) σ H Q) : tMeth C m (spF mg n io g) [] (WN W) (tE mg W f) (tA mg W sl fa) σ H Q := by
  obtain ⟨F, A, env, gd, re, mm⟩ := h
  refine ⟨F, A, env, gd, re, (Run.bind mm).imp (fun x hx F1 B1 A1 H1 v s1 g1 r1 o1 => ?_) fun _ _ h => h⟩
  split at hx
  case isFalse => exact hx.elim
  rename_i hi
  obtain ⟨a, C', dx, gs, rfl, hC', h1, h2⟩ := isIv_ok g1.sub o1 hi
  rw [hC] at hC'
  cases hC'
  refine ⟨a, dx, gs, rfl, h1, h2, F1, A1, x.2, g1.right, r1, (Run.bind hx).imp (fun y hy F2 B2 A2 H2 vs s2 g2 r2 o2 so => ?_) fun c fs hq => PostX.step hq s1 fun _ z => List.mem_append_right _ z⟩
  show spF mg n io g (V.ref a :: (vs ++ [])) H2 Q (WN W)
  rw [List.append_nil]
  obtain ⟨q1, q2, q3⟩ := s2.beside g1 g2
  refine spF_imp (spF_of (sl := none :: sl) (os := x.1 :: y.1) (vs := .ref a :: vs) (by rw [← hn]; rfl) (by rw [List.append_assoc]; exact s1.trans q2) (by rw [List.append_assoc]; exact q1) r2 ⟨.ref a, vs, B1, B2, rfl, rfl, o1.up s2.ext q3, o2⟩ ⟨.ref a, vs, rfl, (fun j ej => (nomatch ej)), so⟩ hy) fun c d H z σ' => ns _ _ _ _ _ z
theorem je_methE {C : Addr} {k : Nat} {f : Addr} {fd : FuncData} {ps : List Str} {n : Nat} {io : List Nat} {g : FF} {o e : Expr} {es : List Expr} {apos : Pos} {sl : List (Option Nat)} {fo : FE} {fa : FA} {pl : Sem Bool} (ns : NoS W) (tk : Takes X W) (ho : JE X W o fo) (hC : cls X.mg c = some C) (kc : Cls X.K C) (hm : Meth X.K C m f) (F : FnOk X.prog X.w X.K X.mg X.base (L2.CX X.prog X.w) k f fd ps (spF X.gm n io g)) (hr : Room k X.A) (hb : Binds X.K fd ps [])
    (ha : JA X W (e :: es) sl fa) (hn : sl.length + 1 = n := by rfl) (hst : starEach (e :: es) X.env = (false, eval e X.env) :: starEach es X.env := by rfl) (hpl : (backTo pos (starEach es X.env)).any (·.1) = false := by rfl)
    (ht : eval (.Call (.Attribute o m apos) (e :: es) [] pos) X.env = (do
      let ov ← eval o X.env
      standAt apos.atName
      let (f, first) ← holding [ov] (getMethod ov m pl)
      callWith pos f first (backTo pos (starEach (e :: es) X.env)) (backToKw pos (keywordEach [] X.env))) := by rfl) : JE X W (.Call (.Attribute o m apos) (e :: es) [] pos) (fMethE c m g io sl fo fa) :=
  PE.imp (pe_meth ho kc hm F hr hb .nil (passN tk) ha hst hpl ht) fun _ _ _ h => tE_methE ns hC hn h
theorem je_methE0 {C : Addr} {k : Nat} {f : Addr} {fd : FuncData} {ps : List Str} {io : List Nat} {g : FF} {o : Expr} {apos : Pos} {fo : FE} {pl : Sem Bool} (ns : NoS W) (tk : Takes X W) (ho : JE X W o fo) (hC : cls X.mg c = some C) (kc : Cls X.K C) (hm : Meth X.K C m f) (F : FnOk X.prog X.w X.K X.mg X.base (L2.CX X.prog X.w) k f fd ps (spF X.gm 1 io g)) (hr : Room k X.A) (hb : Binds X.K fd ps [])
    (ht : eval (.Call (.Attribute o m apos) [] [] pos) X.env = (do
      let ov ← eval o X.env
      standAt apos.atName
      let (f, first) ← holding [ov] (getMethod ov m pl)
      callWith pos f first (backTo pos (starEach [] X.env)) (backToKw pos (keywordEach [] X.env))) := by rfl) : JE X W (.Call (.Attribute o m apos) [] [] pos) (fMethE c m g io [] fo fA0) :=
  PE.imp (pe_meth0 ho kc hm F hr hb .nil (passN tk) ht) fun σ H Q h => by
    have h2 := tE_methE (n := 1) ns hC rfl h
    obtain ⟨F, A, env, gd, re, mm⟩ := h2
    refine ⟨F, A, env, gd, re, mm.imp (fun x hx F1 B1 A1 H1 v s1 g1 r1 o1 => ?_) fun _ _ h => h⟩
    obtain ⟨a, dx, gs, rfl, q1, q2, F2, A2, env2, g2, r2, mm2⟩ := hx F1 B1 A1 H1 v s1 g1 r1 o1
    exact ⟨a, dx, gs, rfl, q1, q2, mm2 F2 [] A2 H1 [] Step.refl g2 r2 ⟨rfl, rfl⟩ rfl⟩

/-! ### arithmetic, comparison -/
def cMul (i j : Int) : Bool := (decide (-(2 ^ 64) < i) && decide (i < 2 ^ 64)) || (decide (-(2 ^ 64) < j) && decide (j < 2 ^ 64))
theorem cMul_ok (i j : Int) (h : cMul i j = true) : CMul i j := by
  unfold cMul at h
  simp only [Bool.or_eq_true, Bool.and_eq_true, decide_eq_true_eq] at h
  exact h
def gMul : PV → PV → Res OV
  | .int a, .int b => if cMul a b = true then ov (.int (a * b)) else .stuck
  | .lst l, .int k => if 0 ≤ k ∧ k ≤ 10000000 ∧ l.length * k.toNat ≤ 10000000 then .ok (.lst ((List.replicate k.toNat l).flatten.map .val)) else .stuck
  | _, _ => .stuck
theorem calm_mul : Calm2 gMul := fun p q c fs h => by
  unfold gMul at h
  split at h
  · split at h <;> cases h
  · split at h <;> cases h
  · cases h
theorem Reps.rep {mg : Gm} {F : Hp} {ps : List PV} {vs : List V} (h : Reps mg F ps vs) : ∀ n : Nat, Reps mg F (List.replicate n ps).flatten (List.replicate n vs).flatten
  | 0 => rfl
  | n + 1 => by
    rw [List.replicate_succ, List.replicate_succ, List.flatten_cons, List.flatten_cons]
    exact h.app (Reps.rep h n)
theorem o2_mul {mg : Gm} : Op2 mg (fun x y H Q => rI CMul (fun i j => .int (i * j)) x y H Q ∨ rRep x y H Q ∨ False) gMul := fun F H x y p q Q gd r1 r2 m => by
  unfold gMul at m
  split at m
  · split at m
    · rename_i hc
      exact .inl ⟨_, _, r1, r2, cMul_ok _ _ hc, PostO.val m gd rfl⟩
    · exact m.elim
  · split at m
    · rename_i l k hc
      obtain ⟨a, vs, rfl, h1, h2⟩ := r1
      exact .inr (.inl ⟨a, k, vs, rfl, r2, gd.sub _ _ h1, by omega, by omega, big_le (by rw [h2.len]; exact hc.2.2), fun p hp => PostO.lst m gd hp (h2.rep _)⟩)
    · exact m.elim
  · exact m.elim
theorem or_mul {X : Cx} : OpR X (binaryOp .Mult) (fun x y H Q => rI CMul (fun i j => .int (i * j)) x y H Q ∨ rRep x y H Q ∨ False) := fun pins s σ H x y v u Q I rx ry h => by
  rcases h with h | h | h
  · exact op_mul pins s σ H x y v u Q I rx ry h
  · exact op_rep pins s σ H x y v u Q I rx ry h
  · exact h.elim
def gSub := gI0 fun a b => .int (a - b)
def gDiv := gI (fun _ j => decide (0 < j) && decide (j < 1073741824)) fun a b => .int (a / b)
def gMod := gI (fun _ j => decide (0 < j)) fun a b => .int (a % b)
def gPow := gI (fun i j => decide (0 ≤ j) && decide (j ≤ 1000000) && decide (i.natAbs < 2 ^ 64)) fun a b => .int (a ^ b.toNat)
def gLt := gI0 fun a b => .bl (decide (a < b))
def gLe := gI0 fun a b => .bl (decide (a ≤ b))
def gGt := gI0 fun a b => .bl (decide (b < a))
def gGe := gI0 fun a b => .bl (decide (b ≤ a))
variable {a b : Expr} {f1 f2 : FE}
theorem je_add (ha : JE X W a f1) (hb : JE X W b f2) : JE X W (.BinOp a .Add b pos) (fO2 gAdd f1 f2) := je_o2 or_add o2_add calm_add ha hb
theorem je_sub (ha : JE X W a f1) (hb : JE X W b f2) : JE X W (.BinOp a .Sub b pos) (fO2 gSub f1 f2) := je_o2 op_sub (op2_I0 fun _ _ _ => rfl) calm_I0 ha hb
theorem je_mul (ha : JE X W a f1) (hb : JE X W b f2) : JE X W (.BinOp a .Mult b pos) (fO2 gMul f1 f2) := je_o2 or_mul o2_mul calm_mul ha hb
theorem je_fdiv (ha : JE X W a f1) (hb : JE X W b f2) : JE X W (.BinOp a .FloorDiv b pos) (fO2 gDiv f1 f2) := je_o2 op_fdiv (op2_I (fun i j h => by simpa [CDiv] using h) fun _ _ _ => rfl) calm_I ha hb
theorem je_mod (ha : JE X W a f1) (hb : JE X W b f2) : JE X W (.BinOp a .Mod b pos) (fO2 gMod f1 f2) := je_o2 op_mod (op2_I (fun i j h => by simpa using h) fun _ _ _ => rfl) calm_I ha hb
theorem je_pow (ha : JE X W a f1) (hb : JE X W b f2) : JE X W (.BinOp a .Pow b pos) (fO2 gPow f1 f2) := je_o2 op_pow (op2_I (fun i j h => by simp only [Bool.and_eq_true, decide_eq_true_eq] at h; exact ⟨h.1.1, h.1.2, h.2⟩) fun _ _ _ => rfl) calm_I ha hb
theorem je_lt (ha : JE X W a f1) (hb : JE X W b f2) (hm : behindInMarks .Lt b = false := by rfl) : JE X W (.Compare a [.Lt] [b] pos) (fO2 gLt f1 f2) := je_cmp op_lt (op2_I0 fun _ _ _ => rfl) calm_I0 ha hb hm
theorem je_le (ha : JE X W a f1) (hb : JE X W b f2) (hm : behindInMarks .LtE b = false := by rfl) : JE X W (.Compare a [.LtE] [b] pos) (fO2 gLe f1 f2) := je_cmp op_le (op2_I0 fun _ _ _ => rfl) calm_I0 ha hb hm
theorem je_gt (ha : JE X W a f1) (hb : JE X W b f2) (hm : behindInMarks .Gt b = false := by rfl) : JE X W (.Compare a [.Gt] [b] pos) (fO2 gGt f1 f2) := je_cmp op_gt (op2_I0 fun _ _ _ => rfl) calm_I0 ha hb hm
theorem je_ge (ha : JE X W a f1) (hb : JE X W b f2) (hm : behindInMarks .GtE b = false := by rfl) : JE X W (.Compare a [.GtE] [b] pos) (fO2 gGe f1 f2) := je_cmp op_ge (op2_I0 fun _ _ _ => rfl) calm_I0 ha hb hm
theorem jt_lt (ha : JE X W a f1) (hb : JE X W b f2) (hm : behindInMarks .Lt b = false := by rfl) : JT X W (.Compare a [.Lt] [b] pos) (fB (fO2 gLt f1 f2)) := jt_cmp op_lt (op2_I0 fun _ _ _ => rfl) calm_I0 ha hb hm
theorem jt_le (ha : JE X W a f1) (hb : JE X W b f2) (hm : behindInMarks .LtE b = false := by rfl) : JT X W (.Compare a [.LtE] [b] pos) (fB (fO2 gLe f1 f2)) := jt_cmp op_le (op2_I0 fun _ _ _ => rfl) calm_I0 ha hb hm
theorem jt_gt (ha : JE X W a f1) (hb : JE X W b f2) (hm : behindInMarks .Gt b = false := by rfl) : JT X W (.Compare a [.Gt] [b] pos) (fB (fO2 gGt f1 f2)) := jt_cmp op_gt (op2_I0 fun _ _ _ => rfl) calm_I0 ha hb hm
theorem jt_ge (ha : JE X W a f1) (hb : JE X W b f2) (hm : behindInMarks .GtE b = false := by rfl) : JT X W (.Compare a [.GtE] [b] pos) (fB (fO2 gGe f1 f2)) := jt_cmp op_ge (op2_I0 fun _ _ _ => rfl) calm_I0 ha hb hm
theorem je_eq (hu : X.A.units + 65 < cLine) (ha : JE X W a f1) (hb : JE X W b f2) (hm : behindInMarks .Eq b = false := by rfl) : JE X W (.Compare a [.Eq] [b] pos) (fO2 gEq f1 f2) := je_cmp (or_eq (by omega)) o2_eq calm_eq ha hb hm
theorem je_ne (hu : X.A.units + 65 < cLine) (ha : JE X W a f1) (hb : JE X W b f2) (hm : behindInMarks .NotEq b = false := by rfl) : JE X W (.Compare a [.NotEq] [b] pos) (fO2 gNe f1 f2) := je_cmp (or_ne (by omega)) o2_ne calm_ne ha hb hm
theorem jt_eq (hu : X.A.units + 65 < cLine) (ha : JE X W a f1) (hb : JE X W b f2) (hm : behindInMarks .Eq b = false := by rfl) : JT X W (.Compare a [.Eq] [b] pos) (fB (fO2 gEq f1 f2)) := jt_cmp (or_eq (by omega)) o2_eq calm_eq ha hb hm
theorem jt_ne (hu : X.A.units + 65 < cLine) (ha : JE X W a f1) (hb : JE X W b f2) (hm : behindInMarks .NotEq b = false := by rfl) : JT X W (.Compare a [.NotEq] [b] pos) (fB (fO2 gNe f1 f2)) := jt_cmp (or_ne (by omega)) o2_ne calm_ne ha hb hm
theorem je_in (ha : JE X W a f1) (hb : JE X W b f2) (hm : behindInMarks .In b = false := by rfl) : JE X W (.Compare a [.In] [b] pos) (fO2 (gIn false) f1 f2) := je_cmp op_in_seq o2_in calm_in ha hb hm
theorem je_nin (ha : JE X W a f1) (hb : JE X W b f2) (hm : behindInMarks .NotIn b = false := by rfl) : JE X W (.Compare a [.NotIn] [b] pos) (fO2 (gIn true) f1 f2) := je_cmp op_notIn_seq o2_in calm_in ha hb hm
theorem jt_in (ha : JE X W a f1) (hb : JE X W b f2) (hm : behindInMarks .In b = false := by rfl) : JT X W (.Compare a [.In] [b] pos) (fB (fO2 (gIn false) f1 f2)) := jt_cmp op_in_seq o2_in calm_in ha hb hm
theorem jt_nin (ha : JE X W a f1) (hb : JE X W b f2) (hm : behindInMarks .NotIn b = false := by rfl) : JT X W (.Compare a [.NotIn] [b] pos) (fB (fO2 (gIn true) f1 f2)) := jt_cmp op_notIn_seq o2_in calm_in ha hb hm
theorem je_is (ha : JE X W a f1) (hb : JE X W b f2) (hm : behindInMarks .Is b = false := by rfl) : JE X W (.Compare a [.Is] [b] pos) (fO2 (gIs false) f1 f2) := je_cmp op_isN o2_isN calm_is ha hb hm
theorem je_isn (ha : JE X W a f1) (hb : JE X W b f2) (hm : behindInMarks .IsNot b = false := by rfl) : JE X W (.Compare a [.IsNot] [b] pos) (fO2 (gIs true) f1 f2) := je_cmp op_notN o2_notN calm_is ha hb hm
theorem jt_is (ha : JE X W a f1) (hb : JE X W b f2) (hm : behindInMarks .Is b = false := by rfl) : JT X W (.Compare a [.Is] [b] pos) (fB (fO2 (gIs false) f1 f2)) := jt_cmp op_isN o2_isN calm_is ha hb hm
theorem jt_isn (ha : JE X W a f1) (hb : JE X W b f2) (hm : behindInMarks .IsNot b = false := by rfl) : JT X W (.Compare a [.IsNot] [b] pos) (fB (fO2 (gIs true) f1 f2)) := jt_cmp op_notN o2_notN calm_is ha hb hm
theorem je_at (ha : JE X W a f1) (hb : JE X W b f2) (hs : PlainIx b := by intro _ _; rfl) : JE X W (.Subscript a b pos) (fO2 gIx f1 f2) := je_ix ix_seq o2_ix calm_ix ha hb hs

/-! ### augmented: the int's own -/
def gAddI := gI0 fun a b => .int (a + b)
theorem o2_aug {f : Int → Int → Int} {mg : Gm} : Op2 mg (ipI f) (gI0 fun a b => .int (f a b)) := fun F H x y p q Q gd r1 r2 m => by
  cases p with
  | int a =>
    cases q with
    | int b => exact ⟨a, b, r1, r2, PostO.val (p := .int (f a b)) m gd rfl⟩
    | _ => exact m.elim
  | _ => exact m.elim
theorem o2_rAdd {mg : Gm} : Op2 mg rAdd gAddI := o2_aug (f := fun a b => a + b)
theorem o2_rSub {mg : Gm} : Op2 mg rSub gSub := o2_aug (f := fun a b => a - b)

/-! ### a tuple of the written part -/
def GT (X : Cx) (x : Str) (l : List V) : Prop := ∃ a, X.mg x = some (.ref a) ∧ ∀ H, SqT X.K H a l
def gInG (neg : Bool) (l : List V) (p : PV) : Res OV := match flatP p with
  | some v => ov (.bl (if neg = true then !inV v l else inV v l))
  | none => .stuck
theorem calm_inG {neg : Bool} {l : List V} : Calm1 (gInG neg l) := fun p c fs h => by
  unfold gInG at h
  split at h <;> cases h
theorem o1_inG {mg : Gm} {neg : Bool} {l : List V} {q : Addr} (hf : l.all flatV = true) (h : ∀ H, SqT mg.K H q l) : Op1 mg (fun x H Q => rIn mg.K neg x (.ref q) H Q) (gInG neg l) := fun F H x p Q gd r m => by
  unfold gInG at m
  split at m
  · rename_i v hv
    obtain ⟨rfl, f1⟩ := flatP_ok hv r
    exact ⟨q, l, rfl, .inr (h H), f1, hf, PostO.val m gd rfl⟩
  · exact m.elim
theorem jt_inG {x : Str} {p : Pos} {l : List V} (g : GT X x l) (hg : Gl X x) (hf : l.all flatV = true) (ha : JE X W a f1) (hd : (x == ("__debug__" : Str)) = false := by decide) : JT X W (.Compare a [.In] [.Name x p] pos) (fB (fO1 (gInG false l) f1)) := by
  obtain ⟨q, hm, h⟩ := g
  exact (pt_cmpR op_in_seq ha (pe_glob (v := .ref q) hg hm rfl hd) rfl).imp fun σ H Q h2 => tE_O1 (r := fun x H Q => rIn X.K false x (.ref q) H Q) (o1_inG hf h) calm_inG (tT_B h2)
theorem je_inG {x : Str} {p : Pos} {l : List V} (g : GT X x l) (hg : Gl X x) (hf : l.all flatV = true) (ha : JE X W a f1) (hd : (x == ("__debug__" : Str)) = false := by decide) : JE X W (.Compare a [.In] [.Name x p] pos) (fO1 (gInG false l) f1) := by
  obtain ⟨q, hm, h⟩ := g
  exact (pe_cmpR op_in_seq ha (pe_glob (v := .ref q) hg hm rfl hd) rfl).imp fun σ H Q h2 => tE_O1 (r := fun x H Q => rIn X.K false x (.ref q) H Q) (o1_inG hf h) calm_inG h2
theorem jt_ninG {x : Str} {p : Pos} {l : List V} (g : GT X x l) (hg : Gl X x) (hf : l.all flatV = true) (ha : JE X W a f1) (hd : (x == ("__debug__" : Str)) = false := by decide) : JT X W (.Compare a [.NotIn] [.Name x p] pos) (fB (fO1 (gInG true l) f1)) := by
  obtain ⟨q, hm, h⟩ := g
  exact (pt_cmpR op_notIn_seq ha (pe_glob (v := .ref q) hg hm rfl hd) rfl).imp fun σ H Q h2 => tE_O1 (r := fun x H Q => rIn X.K true x (.ref q) H Q) (o1_inG hf h) calm_inG (tT_B h2)
theorem je_ninG {x : Str} {p : Pos} {l : List V} (g : GT X x l) (hg : Gl X x) (hf : l.all flatV = true) (ha : JE X W a f1) (hd : (x == ("__debug__" : Str)) = false := by decide) : JE X W (.Compare a [.NotIn] [.Name x p] pos) (fO1 (gInG true l) f1) := by
  obtain ⟨q, hm, h⟩ := g
  exact (pe_cmpR op_notIn_seq ha (pe_glob (v := .ref q) hg hm rfl hd) rfl).imp fun σ H Q h2 => tE_O1 (r := fun x H Q => rIn X.K true x (.ref q) H Q) (o1_inG hf h) calm_inG h2
end
end Ev

/-! # Ev 15: joins -/
namespace Ev
open PySem L2

theorem takesW0 {X : Cx} : Takes X W0 := fun u s' ⟨_, _, _, _, _, _, _, _, _, _, _, _, _, _, _, _, w⟩ => w.elim
theorem cf_mk {X : Cx} {c f : Str} {C : Addr} (hm : X.mg c = some (.ref C)) (k : Cls X.K C) (n : NoAttr X.K C f) : Cf X c f := ⟨fun C' h => by
  rw [cls_of hm] at h
  cases h
  exact ⟨k, n⟩⟩
theorem hu65 {A : Around} {k : Nat} (hr : Room k A) : A.units + 65 < cLine := by have := hr.un; omega
theorem hu1 {A : Around} (h : A.units + 65 < cLine) : A.units + 1 < cLine := by omega
/-! ### max, min -/
def rMaxA (K : PySem.W.Frag) : List V → Hp → VK → Prop := fun xs H Q => rMax K xs H Q ∨ ∃ i j, xs = [.int i, .int j] ∧ Q (.int (if j > i then j else i)) H
def rMinA (K : PySem.W.Frag) : List V → Hp → VK → Prop := fun xs H Q => rMin K xs H Q ∨ ∃ i j, xs = [.int i, .int j] ∧ Q (.int (if j < i then j else i)) H
theorem cr_maxA {X : Cx} (hc : X.calm = true) : CallR X (.builtin "max") (rMaxA X.K) := (cr_max hc).or (call_max2 hc)
theorem cr_minA {X : Cx} (hc : X.calm = true) : CallR X (.builtin "min") (rMinA X.K) := (cr_min hc).or (call_min2 hc)
def gMaxA : List PV → Res OV
  | [.lst l] => gMax [.lst l]
  | [.int i, .int j] => ov (.int (if j > i then j else i))
  | _ => .stuck
def gMinA : List PV → Res OV
  | [.lst l] => gMin [.lst l]
  | [.int i, .int j] => ov (.int (if j < i then j else i))
  | _ => .stuck
theorem calm_maxA : CalmN gMaxA := fun p c fs h => by
  unfold gMaxA at h
  split at h
  · exact calm_max _ _ _ h
  · cases h
  · cases h
theorem calm_minA : CalmN gMinA := fun p c fs h => by
  unfold gMinA at h
  split at h
  · exact calm_min _ _ _ h
  · cases h
  · cases h
theorem on_maxA {mg : Gm} : OpN mg (rMaxA mg.K) gMaxA := fun F H xs ps Q gd r m => by
  unfold gMaxA at m
  split at m
  · exact .inl (on_max1 F H xs _ Q gd r m)
  · exact .inr (on_max2 F H xs _ Q gd r m)
  · exact m.elim
theorem on_minA {mg : Gm} : OpN mg (rMinA mg.K) gMinA := fun F H xs ps Q gd r m => by
  unfold gMinA at m
  split at m
  · exact .inl (on_min1 F H xs _ Q gd r m)
  · exact .inr (on_min2 F H xs _ Q gd r m)
  · exact m.elim
/-! ### range down -/
def rngD (a b : Int) : List PV := (List.range (a - b).toNat).map fun (i : Nat) => PV.int (a - (i : Int))
theorem rngD_len (a b : Int) : (rngD a b).length = (a - b).toNat := by unfold rngD; rw [List.length_map, List.length_range]
theorem rngD_at {a b : Int} {i : Nat} (h : i < (a - b).toNat) : (rngD a b)[i]? = some (.int (a - (i : Int))) := by
  unfold rngD
  rw [List.getElem?_map, List.getElem?_range h]
  all_goals rfl
theorem serves_d {mg : Gm} {F : Hp} {a b : Int} : Serves mg F (Itc a (-1) (a - b).toNat) (rngD a b) where
  go := fun H i _ hi => by rw [rngD_len] at hi; exact hi
  stop := fun H i _ hi => by rw [rngD_len] at hi; exact hi
  yld := fun H i x H' _ hi y => ⟨y.1, _, rngD_at (by rw [rngD_len] at hi; exact hi), by
    rw [y.2]
    show V.int (a + (i : Int) * (-1)) = V.int (a - (i : Int))
    congr 1
    omega⟩
def fR3 (fa : FA) : FI := fun env => (fa env).bind fun x => match x.1 with
  | [.val (.int a), .val (.int b), .val (.int c)] => if c = -1 ∧ small a = true ∧ small b = true then .ok (rngD a b, x.2) else .stuck
  | _ => .stuck
section
variable {X : Cx} {W : WX} {tg : Expr} {pos : Pos}
theorem ji_r3 {a b c : Expr} {fa : FA} {p pos : Pos} {sl : List (Option Nat)} (hg : Gl X "range") (hm : X.mg "range" = none) (ha : JA X W [a, b, c] sl fa) (hs : starEach [a, b, c] X.env = (false, eval a X.env) :: starEach [b, c] X.env := by rfl) (hpl : (backTo pos (starEach [b, c] X.env)).any (·.1) = false := by rfl) : JI X W tg (.Call (.Name "range" p) [a, b, c] [] pos) (fR3 fa) := PI.imp (pi_range3 hg hm ha hs hpl) fun σ H R h => by
  obtain ⟨F, A, env, gd, re, m⟩ := h
  refine ⟨F, A, env, gd, re, (Run.bind m).imp (fun x hx F1 B1 A1 H1 vs s1 g1 r1 o1 _ => ?_) fun _ _ h => h⟩
  obtain ⟨os, env1⟩ := x
  dsimp only at hx
  split at hx
  · rename_i a b c
    obtain ⟨v, vs', A1', A2', rfl, rfl, ⟨rfl, rfl⟩, v2, vs2, A3', A4', rfl, rfl, ⟨rfl, rfl⟩, v3, vs3, A5', A6', rfl, rfl, ⟨rfl, rfl⟩, rfl, rfl⟩ := o1
    split at hx
    · rename_i hs
      obtain ⟨rfl, hs1, hs2⟩ := hs
      obtain ⟨h1, h2⟩ := small_of hs1
      obtain ⟨h3, h4⟩ := small_of hs2
      exact ⟨a, b, -1, _, rfl, RgC.neg h1 h2 h3 h4, hx F1 A1 H1 _ s1 g1 r1 serves_d⟩
    · exact hx.elim
  · exact hx.elim
end
/-! ### minus; a written tuple -/
def gNeg : PV → Res OV
  | .int i => ov (.int (-i))
  | _ => .stuck
theorem calm_neg : Calm1 gNeg := fun p c fs h => by
  unfold gNeg at h
  split at h <;> cases h
theorem o1_neg {mg : Gm} : Op1 mg (rU fun i => .int (-i)) gNeg := fun F H x p Q gd r m => by
  unfold gNeg at m
  split at m
  · rename_i i
    exact ⟨i, r, PostO.val (p := .int (-i)) m gd rfl⟩
  · exact m.elim
theorem je_neg {X : Cx} {W : WX} {a : Expr} {pos : Pos} {f : FE} (ha : JE X W a f) : JE X W (.UnaryOp .USub a pos) (fO1 gNeg f) := je_o1 un_neg o1_neg calm_neg ha
theorem gt_of {K : PySem.W.Frag} {q : Addr} {d : Option Addr} {its : Array Value} {n : Nat} {sl : Array (Option Value)} {l : List V} (h : K.lookup q = some ⟨.type "tuple", d, .seq its n, sl⟩) (z : its.size ≤ 1000) (v : Vals l its.toList) (H : Hp) : SqT K H q l :=
  .inr ⟨_, its, n, h, rfl, rfl, Nat.le_of_lt (small1000 z), v⟩

/-! ### the law -/
def spLaw (K : PySem.W.Frag) : Sp := fun vs H Q _ => ∃ (a : Addr) (ns : List Int), vs = [.ref a] ∧ SqL K H a (ns.map V.int) ∧ ns.length ≤ 63 ∧ ∀ H', Q (.bl true) H'
theorem spLaw_of {mg : Gm} {g : FF} (h : ∀ ns : List Int, ns.length ≤ 63 → ∃ os, g [.val (.scr ns)] = .ok (.val (.bl true), os)) : ∀ vs H Q E, spLaw mg.K vs H Q E → spF mg 1 [] g vs H Q E := fun vs H Q E ⟨a, ns, hv, hS, hl, k⟩ => by
  subst hv
  obtain ⟨os, e⟩ := h ns hl
  refine ⟨H, [], [.val (.scr ns)], ⟨fun _ _ z => z, List.nodup_nil, fun _ z => (nomatch z), fun _ z => (nomatch z)⟩, ⟨_, _, [], [], rfl, rfl, ⟨rfl, a, rfl, hS⟩, rfl, rfl⟩, rfl, ?_⟩
  rw [e]
  intro F' B A' H' v s g r o
  obtain ⟨_, hr⟩ := r
  have hr' : v = .bl true := hr
  rw [hr']
  exact k H'
end Ev

/-! # Ev 16: except .. as e -/
namespace Ev
open PySem L2
/-- try: body except X as e: suite; e's slot is i; the suite may hang on the error's class -/
def fTryAs (caught : Str → Option Bool) (i : Nat) (fb : FS) (fs : Str → FS) : FS := fun env => match fb env with
  | .exc c args => (match caught c with
    | some true => (match args with
      | [] => if i < env.length then (noX (fs c ((deadE env).set i none))).bind fun y => .ok (y.1, y.2.set i none) else .stuck
      | _ => .stuck)
    | some false => .exc c args
    | none => .stuck)
  | r => r
section
variable {X : Cx} {W : WX} {ts : List Nat} {pos : Pos}
/-- in the suite: e's slot still holds the error -/
def tSk (mg : Gm) (ts : List Nat) (i : Nat) (a : Addr) (f : FS) : TS := fun D σ H => σ[i]? = some (some (.ref a)) ∧ tS mg W0 ts f D σ H
theorem REnv.free {mg : Gm} {F H : Hp} {env : Env} {σ : L2.St} {A : List Addr} {i : Nat} {x : Option V} (r : REnv mg F H env σ A) : ∃ A', REnv mg F H (env.set i none) (σ.set i x) A' ∧ A'.Sublist A := by
  obtain ⟨A', r', s⟩ := r.drop i
  refine ⟨A', r'.any List.length_set fun j ⟨o, e⟩ => ?_, s⟩
  by_cases q : i = j
  · subst q
    rw [List.getElem?_set] at e
    simp at e
  · exact List.getElem?_set_ne q
theorem js_tryAs {x n : Str} {i : Nat} {cX : Value} {body suite : List Stmt} {b₀ : Stmt} {np pos' : Pos} {caught : Str → Option Bool} {fb : FS} {fs : Str → FS} (hs : X.stack = X.env :: X.outer) (hf : X.env.frame = some X.env.locals) (hN : X.N.Nodup) (hi : X.N[i]? = some n) (hln : X.env.kindOf n = some .local) (hc : Names X x cX) (tk : Takes X W)
    (hca : ∀ c b C, caught c = some b → cls X.mg c = some C → PySem.W.exmOne X.K (.ref C) cX = some b)
    (hb : ∀ (W' : WX) (pn : List (Addr × Obj)) (xe : Value → Shared → Prop), Takes (X.tr pn xe) W' → PassesOwn (model X.prog X.w) X.A X.env xe → JSs (X.tr pn xe) W' ts body fb)
    (hsu : ∀ (a : Addr) (oe : Obj) (pn : List (Addr × Obj)) (c : Str) (C : Addr), caught c = some true → cls X.mg c = some C → Zc (.ref C) none oe → (∃ vs, oe.data = .fields vs) → PSs (X.suite a ((a, oe) :: pn)) (b₀ :: suite) (tSk X.gm ts i a (fs c))) (ht : i ∈ ts := by decide) :
    JS X W ts (.Try body [.ExceptHandler (some (.Name x np)) (some n) (b₀ :: suite) pos'] [] [] pos) (fTryAs caught i fb fs) :=
  PS.imp (ps_try_as (tb := fun W' => tS X.gm W' ts fb) (ts := fun a cl d => fun D σ H => ∃ c C, caught c = some true ∧ cls X.mg c = some C ∧ cl = .ref C ∧ d = none ∧ tSk X.gm ts i a (fs c) D σ H) (Wout := W) hs hf hN hi hln hc tk hb (fun a oe cl d pn hz hv => ⟨fun pins s σ H D I w => by
    obtain ⟨c, C, h1, h2, rfl, rfl, h3⟩ := w
    exact (hsu a oe pn c C h1 h2 hz hv).run pins s σ H D I h3⟩)) fun D σ H ⟨F, A, env, g, re, m⟩ => by
    refine ⟨F, A, env, g, re, ?_⟩
    unfold fTryAs at m
    cases q : fb env with
    | ok y => rw [q] at m; exact m
    | stuck => rw [q] at m; exact m
    | exc c args =>
      rw [q] at m
      dsimp only at m
      intro F' H' C d s g' ec xd
      cases qc : caught c with
      | none => rw [qc] at m; exact m.elim
      | some b =>
        rw [qc] at m
        refine ⟨b, hca c b C qc ec, fun hb a ha => ?_, fun hb => ?_⟩
        · subst hb
          cases args with
          | cons _ _ => exact m.elim
          | nil =>
            have hd : d = none := by
              rcases xd with xd | ⟨_, _, n0, _⟩
              · exact xd.2
              · exact absurd rfl n0
            dsimp only at m
            split at m
            case isFalse => exact m.elim
            rename_i hi1
            have hi2 : i < σ.length := by rw [← re.len] at *; exact hi1
            · refine ⟨c, C, qc, ec, rfl, hd, by rw [List.getElem?_set]; simp [hi2], ?_⟩
              obtain ⟨A5, r5, sb5⟩ := ((re.dead).up s.ext fun a ha => nomatch ha : REnv X.gm F' H' (deadE env) σ []).free (i := i) (x := some (.ref a))
              have e5 : A5 = [] := List.sublist_nil.mp sb5
              subst e5
              refine ⟨F', [], (deadE env).set i none, g', r5, ?_⟩
              have m2 := Run.bind (r := noX (fs c ((deadE env).set i none))) m
              refine (Run.noX' m2).imp (fun y hy => ?_) fun _ _ h => h
              have bu : ∀ {σ4 : L2.St}, But ts (σ.set i (some (.ref a))) σ4 → But ts σ (σ4.set i none) := fun {σ4} b => ⟨by rw [List.length_set, b.1, List.length_set], fun j nj => by
                have ne : i ≠ j := fun z => nj (z ▸ ht)
                rw [List.getElem?_set_ne ne, b.2 j nj, List.getElem?_set_ne ne]⟩
              have s0 : Step F A H F' [] H' := s
              obtain ⟨fl, env2⟩ := y
              cases fl with
              | nx =>
                intro F4 A4 H4 σ4 s4 g4 r4 b4
                obtain ⟨A6, r6, sb6⟩ := r4.free (i := i) (x := none)
                exact hy F4 A6 H4 _ (s0.trans (s4.less fun a ha => sb6.mem ha)) (g4.sl sb6) r6 (bu b4)
              | bk =>
                intro F4 A4 H4 σ4 s4 g4 r4 b4
                obtain ⟨A6, r6, sb6⟩ := r4.free (i := i) (x := none)
                exact hy F4 A6 H4 _ (s0.trans (s4.less fun a ha => sb6.mem ha)) (g4.sl sb6) r6 (bu b4)
              | ct =>
                intro F4 A4 H4 σ4 s4 g4 r4 b4
                obtain ⟨A6, r6, sb6⟩ := r4.free (i := i) (x := none)
                exact hy F4 A6 H4 _ (s0.trans (s4.less fun a ha => sb6.mem ha)) (g4.sl sb6) r6 (bu b4)
              | rt o =>
                intro F4 B4 A4 H4 σ4 v s4 g4 r4 b4 ro
                obtain ⟨A6, r6, sb6⟩ := r4.free (i := i) (x := none)
                exact hy F4 B4 A6 H4 _ v (s0.trans (s4.less fun a ha => (List.Sublist.append (List.Sublist.refl B4) sb6).mem ha)) (g4.sl (List.Sublist.append (List.Sublist.refl B4) sb6)) r6 (bu b4) ro
        · subst hb
          have m' : PostX X.gm W F A H σ c args := m
          exact m' F' H' C d s g' ec xd
/-! ### what the suite asks of e -/
def tKn (i : Nat) (a : Addr) (b : Bool) : TT := fun σ H Q => σ[i]? = some (some (.ref a)) ∧ Q b H
theorem pt_isO {a C CT : Addr} {oe : Obj} {pn : List (Addr × Obj)} {i : Nat} {e : Expr} {T : Str} {p p2 pos : Pos} {b : Bool} (E : ExcC X.K C) (hz : Zc (.ref C) none oe) (hf : ∃ vs, oe.data = .fields vs) (hv : PE (X.suite a ((a, oe) :: pn)) e (tVar i))
    (hg : Gl X "isinstance") (hm : X.mg "isinstance" = none) (hgT : Gl X T) (hmT : X.mg T = some (.ref CT)) (hk : PySem.W.kitOne X.K (.ref C) (.ref CT) = some b) (hdT : (T == ("__debug__" : Str)) = false := by decide)
    (h1 : starEach [e, .Name T p2] X.env = (false, eval e X.env) :: starEach [.Name T p2] X.env := by rfl) (h2 : starEach [.Name T p2] X.env = (false, eval (.Name T p2) X.env) :: starEach [] X.env := by rfl) (hpl : (backTo pos (starEach [.Name T p2] X.env)).any (·.1) = false := by rfl)
    (he : ∀ whole, isTrue (.Call (.Name "isinstance" p) [e, .Name T p2] [] pos) X.env whole = (do let v ← whole; standAt (Expr.pos (.Call (.Name "isinstance" p) [e, .Name T p2] [] pos)); holding [v] (truthy v)) := by intro _; rfl) :
    PT (X.suite a ((a, oe) :: pn)) (.Call (.Name "isinstance" p) [e, .Name T p2] [] pos) (tKn i a b) :=
  (pt_val (pe_callB (X := X.suite a ((a, oe) :: pn)) (t := tCons (tVar i) (tCons (tC (.ref CT)) tNil)) (call_isE E hz hf) hg hm (by decide +kernel) (pa_cons hv (pa_cons (pe_glob (v := .ref CT) hgT hmT rfl hdT) pa_nil h2) h1) (by decide) (by decide) h1 hpl) he).imp fun σ H Q h => by
    obtain ⟨hs, q⟩ := h
    exact ⟨.ref a, hs, .ref CT, .ref CT, b, rfl, fun u r => r, hk, b, rfl, q⟩
theorem pt_isB {a C : Addr} {Tn : String} {oe : Obj} {pn : List (Addr × Obj)} {i : Nat} {e : Expr} {T : Str} {p p2 pos : Pos} {b : Bool} (E : ExcC X.K C) (hz : Zc (.ref C) none oe) (hf : ∃ vs, oe.data = .fields vs) (hv : PE (X.suite a ((a, oe) :: pn)) e (tVar i))
    (hg : Gl X "isinstance") (hm : X.mg "isinstance" = none) (hgT : Gl X T) (hmT : X.mg T = none) (hvT : bootBuiltins T = some (.type Tn)) (hk : PySem.W.kitOne X.K (.ref C) (.type Tn) = some b) (hnT : T ≠ "__name__" := by decide) (hdT : (T == ("__debug__" : Str)) = false := by decide)
    (h1 : starEach [e, .Name T p2] X.env = (false, eval e X.env) :: starEach [.Name T p2] X.env := by rfl) (h2 : starEach [.Name T p2] X.env = (false, eval (.Name T p2) X.env) :: starEach [] X.env := by rfl) (hpl : (backTo pos (starEach [.Name T p2] X.env)).any (·.1) = false := by rfl)
    (he : ∀ whole, isTrue (.Call (.Name "isinstance" p) [e, .Name T p2] [] pos) X.env whole = (do let v ← whole; standAt (Expr.pos (.Call (.Name "isinstance" p) [e, .Name T p2] [] pos)); holding [v] (truthy v)) := by intro _; rfl) :
    PT (X.suite a ((a, oe) :: pn)) (.Call (.Name "isinstance" p) [e, .Name T p2] [] pos) (tKn i a b) :=
  (pt_val (pe_callB (X := X.suite a ((a, oe) :: pn)) (t := tCons (tVar i) (tCons (tC (.ty Tn)) tNil)) (call_isE E hz hf) hg hm (by decide +kernel) (pa_cons hv (pa_cons (pe_bltn (v := .ty Tn) hgT hmT hvT rfl hnT hdT) pa_nil h2) h1) (by decide) (by decide) h1 hpl) he).imp fun σ H Q h => by
    obtain ⟨hs, q⟩ := h
    exact ⟨.ref a, hs, .ty Tn, .type Tn, b, rfl, fun u r => r, hk, b, rfl, q⟩
theorem pt_andK {i : Nat} {a : Addr} {b1 b2 : Bool} {c1 c2 : Expr} {pos : Pos} (h1 : PT X c1 (tKn i a b1)) (h2 : PT X c2 (tKn i a b2)) : PT X (.BoolOp .And [c1, c2] pos) (tKn i a (b1 && b2)) :=
  (pw_and h1 (pw_and1 h2)).pt.imp fun σ H Q h => by
    obtain ⟨hs, q⟩ := h
    refine ⟨hs, ?_⟩
    cases b1 with
    | true => exact ⟨hs, q⟩
    | false => exact q
/-- the suite's one if -/
theorem js_ifK {i : Nat} {a : Addr} {b : Bool} {c : Expr} {sa sb : List Stmt} {fa fb : FS} (hc : PT X c (tKn i a b)) (ha : JSs X W0 ts sa fa) (hb : JSs X W0 ts sb fb) : PSs X [.If c sa sb pos] (tSk X.gm ts i a (fIfS (fun env => .ok (b, env)) fa fb)) :=
  pss_one (PS.imp (ps_if hc ha hb) fun D σ H ⟨hs, F, A, env, g, re, m⟩ => ⟨hs, by
    cases b with
    | true => exact ⟨F, A, env, g, re, m⟩
    | false => exact ⟨F, A, env, g, re, m⟩⟩)
end
end Ev

/-! # Ev 17: chains, list(range), bits, written dicts, turned lists -/
namespace Ev
open PySem L2
section
variable {X : Cx} {W : WX} {ts : List Nat} {pos : Pos}
/-! ### list(range(..)) -/
def lr (a b : Int) : Res OV := if small a = true ∧ small b = true ∧ (b - a).toNat ≤ 10000000 then .ok (.lst ((rng a b).map .val)) else .stuck
def fLr1 (f : FE) : FE := fun env => (f env).bind fun x => match x.1 with
  | .val (.int n) => (lr 0 n).bind fun o => .ok (o, x.2)
  | _ => .stuck
def fLr2 (f1 f2 : FE) : FE := fO2 (fun p q => match p, q with
  | .int a, .int b => lr a b
  | _, _ => .stuck) f1 f2
theorem rgV_rep {mg : Gm} {F : Hp} : ∀ (l : List Nat) (a : Int), Reps mg F (l.map fun (i : Nat) => PV.int (a + (i : Int))) (l.map fun (i : Nat) => V.int (a + (i : Int)))
  | [], _ => rfl
  | i :: l, a => ⟨_, _, rfl, rfl, rgV_rep l a⟩
theorem lr_post {mg : Gm} {F H : Hp} {a b : Int} {Q : VK} (gd : Good F [] H) (m : Run (lr a b) (PostO mg F H Q) (fun _ _ => False)) : RgOk a b ∧ ∀ q, H q = none → Q (.ref q) (upd H q (.lst (rgV a b))) := by
  unfold lr at m
  split at m
  · rename_i h
    obtain ⟨h1, h2⟩ := small_of h.1
    obtain ⟨h3, h4⟩ := small_of h.2.1
    exact ⟨⟨h1, h2, h3, h4, by omega⟩, fun q hq => PostO.lst (ps := rng a b) m gd hq (rgV_rep _ a)⟩
  · exact m.elim
theorem je_lr1 {a : Expr} {f : FE} {p p2 pos pos2 : Pos} (hg : Gl X "list") (hm : X.mg "list" = none) (hg2 : Gl X "range") (hm2 : X.mg "range" = none) (hc : X.calm = true) (ha : JE X W a f)
    (na : starEach [a] X.env = (false, eval a X.env) :: starEach [] X.env := by rfl) (nb : starEach [(.Call (.Name "range" p2) [a] [] pos2)] X.env = (false, eval (.Call (.Name "range" p2) [a] [] pos2) X.env) :: starEach [] X.env := by rfl) :
    JE X W (.Call (.Name "list" p) [.Call (.Name "range" p2) [a] [] pos2] [] pos) (fLr1 f) := PE.imp (pe_listRg hc hg hm (prg_1 hg2 hm2 ha na) nb) fun σ H Q h => by
  obtain ⟨F, A, env, gd, re, m⟩ := h
  refine ⟨F, A, env, gd, re, (Run.bind m).imp (fun x hx F1 B1 A1 H1 v s1 g1 r1 o1 => ?_) fun _ _ h => h⟩
  split at hx
  · rename_i n hn
    rw [hn] at o1
    obtain ⟨rfl, hv⟩ := o1
    have hx2 := Run.bind hx
    have hno : Run (lr 0 n) (fun o => PostE X.gm F A H σ Q (o, x.2)) (fun _ _ => False) := run_no hx2 fun c fs h => by
      unfold lr at h
      split at h <;> cases h
    refine ⟨n, hv, lr_post (good_nil g1) (hno.imp (fun o q => post_op q s1 g1 r1) fun _ _ h => h)⟩
  · exact hx.elim
/-! ### bits -/
def gBand := gI0 fun a b => .int (Builtin.bitAnd a b)
def gBor := gI0 fun a b => .int (Builtin.bitOr a b)
def gBxor := gI0 fun a b => .int (Builtin.bitXor a b)
def gShl := gI (fun i j => decide (0 ≤ j) && decide (j ≤ 1000000) && decide (i.natAbs < 2 ^ 64)) fun a b => .int (a * 2 ^ b.toNat)
def gShr := gI (fun _ j => decide (0 ≤ j)) fun a b => .int (a / 2 ^ b.toNat)
variable {a b : Expr} {f1 f2 : FE}
theorem je_band (ha : JE X W a f1) (hb : JE X W b f2) : JE X W (.BinOp a .BitAnd b pos) (fO2 gBand f1 f2) := je_o2 op_and (op2_I0 fun _ _ _ => rfl) calm_I0 ha hb
theorem je_bor (ha : JE X W a f1) (hb : JE X W b f2) : JE X W (.BinOp a .BitOr b pos) (fO2 gBor f1 f2) := je_o2 op_or (op2_I0 fun _ _ _ => rfl) calm_I0 ha hb
theorem je_bxor (ha : JE X W a f1) (hb : JE X W b f2) : JE X W (.BinOp a .BitXor b pos) (fO2 gBxor f1 f2) := je_o2 op_xor (op2_I0 fun _ _ _ => rfl) calm_I0 ha hb
theorem je_shl (ha : JE X W a f1) (hb : JE X W b f2) : JE X W (.BinOp a .LShift b pos) (fO2 gShl f1 f2) := je_o2 op_shl (op2_I (fun i j h => by simp only [Bool.and_eq_true, decide_eq_true_eq] at h; exact ⟨h.1.1, h.1.2, h.2⟩) fun _ _ _ => rfl) calm_I ha hb
theorem je_shr (ha : JE X W a f1) (hb : JE X W b f2) : JE X W (.BinOp a .RShift b pos) (fO2 gShr f1 f2) := je_o2 op_shr (op2_I (fun i j h => by simpa using h) fun _ _ _ => rfl) calm_I ha hb
/-! ### a dict of the written part, looked up -/
def GD (mg : Str → Option Value) (K : PySem.W.Frag) (w : World) (x : Str) (tb : List (Str × PV)) : Prop := ∃ d, mg x = some (.ref d) ∧ ∀ z p, getF tb z = some p → ∃ v, flatP p = some v ∧ KDct K w d z v
def gDk (tb : List (Str × PV)) : PV → Res OV
  | .str z => (match getF tb z with
    | some p => ov p
    | none => .stuck)
  | _ => .stuck
theorem calm_Dk {tb : List (Str × PV)} : Calm1 (gDk tb) := fun p c fs h => by
  unfold gDk at h
  split at h
  · split at h <;> cases h
  · cases h
theorem flatP_rep {mg : Gm} {F : Hp} {p : PV} {v : V} (h : flatP p = some v) : Rep mg F p v := by
  cases p <;> cases h <;> rfl
theorem je_kd {x : Str} {p : Pos} {tb : List (Str × PV)} (g : GD X.mg X.K X.w x tb) (hg : Gl X x) (ha : JE X W a f1) (hs : PlainIx a := by intro _ _; rfl) (hd : (x == ("__debug__" : Str)) = false := by decide) : JE X W (.Subscript (.Name x p) a pos) (fO1 (gDk tb) f1) := by
  obtain ⟨d, hm, h⟩ := g
  refine (pe_ix ix_kdict (pe_glob (v := .ref d) hg hm rfl hd) ha hs).imp fun σ H Q h2 => ?_
  show tUn (fun y H Q => rIxD X.K X.w (.ref d) y H Q) (tE X.gm W f1) σ H Q
  refine tE_O1 (fun F H y p Q gd r m => ?_) calm_Dk h2
  unfold gDk at m
  split at m
  · rename_i z
    split at m
    · rename_i q hq
      obtain ⟨v, hv, hk⟩ := h z q hq
      exact ⟨d, z, v, rfl, r, hk, PostO.val m gd (flatP_rep hv)⟩
    · exact m.elim
  · exact m.elim
/-! ### xs[::-1] -/
def gTurn : PV → Res OV
  | .lst l => .ok (.lst (l.reverse.map .val))
  | _ => .stuck
theorem calm_turn : Calm1 gTurn := fun p c fs h => by
  unfold gTurn at h
  split at h <;> cases h
theorem je_turn {e : Expr} {f : FE} {k : Nat} {p1 p2 p3 : Pos} (he : JE X W e f) : JE X W (.Subscript e (.Slice none none (some (.UnaryOp .USub (.Constant (.int 1) k p1) p2)) p3) pos) (fO1 gTurn f) :=
  (pe_revL he).imp fun σ H Q h => tE_O1 (r := fun x H1 Q => ∃ a xs, x = .ref a ∧ SqL X.K H1 a xs ∧ ∀ p, H1 p = none → Q (.ref p) (upd H1 p (.lst xs.reverse))) (fun F H x p Q gd r m => by
    unfold gTurn at m
    split at m
    · obtain ⟨a, vs, rfl, h1, h2⟩ := r
      exact ⟨a, vs, rfl, SqL.of (gd.sub _ _ h1), fun p hp => PostO.lst m gd hp h2.rev⟩
    · exact m.elim) calm_turn h
/-! ### a op b op c -/
def fCh (g g' : PV → PV → Res OV) (f1 f2 f3 : FE) : FE := fun env => (f1 env).bind fun x => (vl x.1).bind fun p => (f2 x.2).bind fun y => (vl y.1).bind fun q => (g p q).bind fun o => match o with
  | .val (.bl true) => (f3 y.2).bind fun z => (vl z.1).bind fun r => (g' q r).bind fun o => .ok (o, z.2)
  | .val (.bl false) => .ok (.val (.bl false), y.2)
  | _ => .stuck
theorem tE_ch {mg : Gm} {r r' : R2} {g g' : PV → PV → Res OV} {f1 f2 f3 : FE} (ho : Op2 mg r g) (hc : Calm2 g) (hb : ∀ p q o, g p q = .ok o → ∃ k, o = .val (.bl k)) (ho' : Op2 mg r' g') (hc' : Calm2 g') {σ : L2.St} {H : Hp} {Q : VK} (h : tE mg W (fCh g g' f1 f2 f3) σ H Q) :
    tChain r r' (tE mg W f1) (tE mg W f2) (tE mg W f3) σ H Q := by
  obtain ⟨F, A, env, gd, re, m⟩ := h
  refine ⟨F, A, env, gd, re, (Run.bind m).imp (fun x hx F1 B1 A1 H1 v s1 g1 r1 o1 => ?_) fun _ _ h => h⟩
  obtain ⟨p, _, rp, rfl, hx2⟩ := vl_of hx o1
  refine ⟨F1, A1, x.2, g1, r1, (Run.bind (r := f2 x.2) hx2).imp (fun y hy F2 B2 A2 H2 u s2 g2 r2 o2 => ?_) fun c fs hq => PostX.step hq s1 fun _ z => z⟩
  obtain ⟨q, _, rq, rfl, hy2⟩ := vl_of hy o2
  have hy3 := Run.bind (r := g p q) hy2
  refine ho F2 H2 v u p q _ (good_nil g2) (rp.up s2.ext) rq ?_
  cases hg : g p q with
  | stuck => rw [hg] at hy3; exact hy3.elim
  | exc c fs => exact absurd hg (hc p q c fs)
  | ok o =>
    obtain ⟨k, rfl⟩ := hb p q o hg
    rw [hg] at hy3
    intro F3 B3 H3 w s3 g3 ow
    obtain ⟨rfl, hw⟩ := ow
    obtain ⟨q1, q2, q3⟩ := s3.aside g2 g3
    refine ⟨k, hw, ?_⟩
    have r3 := r2.up s3.ext q3
    have s13 : Step F A H F3 A2 H3 := s1.trans (s2.trans q2)
    cases k with
    | false =>
      rw [if_neg (by decide)]
      exact hy3 F3 [] A2 H3 _ s13 q1 r3 ⟨rfl, rfl⟩
    | true =>
      rw [if_pos rfl]
      refine ⟨F3, A2, y.2, q1, r3, (Run.bind (r := f3 y.2) hy3).imp (fun z hz F4 B4 A4 H4 t s4 g4 r4 o4 => ?_) fun c fs hq => PostX.step hq s13 fun _ z => z⟩
      obtain ⟨rr, _, rr4, rfl, hz2⟩ := vl_of hz o4
      exact ho' F4 H4 u t q rr Q (good_nil g4) ((rq.up s3.ext).up s4.ext) rr4 ((run_no (Run.bind hz2) (hc' q rr)).imp (fun o z => post_op z (s13.trans s4) g4 r4) fun _ _ h => h)
theorem bool_I0 {f : Int → Int → Bool} : ∀ p q o, gI0 (fun a b => .bl (f a b)) p q = .ok o → ∃ k, o = .val (.bl k) := fun p q o h => by
  unfold gI0 at h
  split at h
  · cases h; exact ⟨_, rfl⟩
  · cases h
/-- the four order tests as one family -/
inductive Od where
  | lt | le | gt | ge
def Od.op : Od → CmpOp
  | .lt => .Lt
  | .le => .LtE
  | .gt => .Gt
  | .ge => .GtE
def Od.g : Od → PV → PV → Res OV
  | .lt => gLt
  | .le => gLe
  | .gt => gGt
  | .ge => gGe
def Od.r : Od → R2
  | .lt => rI0 fun i j => .bl (decide (i < j))
  | .le => rI0 fun i j => .bl (decide (i ≤ j))
  | .gt => rI0 fun i j => .bl (decide (j < i))
  | .ge => rI0 fun i j => .bl (decide (j ≤ i))
theorem Od.hop (o : Od) : OpR X (compareOp o.op) o.r := by
  cases o
  · exact op_lt
  · exact op_le
  · exact op_gt
  · exact op_ge
theorem Od.ho {mg : Gm} (o : Od) : Op2 mg o.r o.g := by
  cases o <;> exact op2_I0 fun _ _ _ => rfl
theorem Od.hc (o : Od) : Calm2 o.g := by
  cases o <;> exact calm_I0
theorem Od.hb (o : Od) : ∀ p q x, o.g p q = .ok x → ∃ k, x = .val (.bl k) := by
  cases o <;> exact bool_I0
variable {c : Expr} {f3 : FE}
theorem je_ch (o o' : Od) (ha : JE X W a f1) (hb : JE X W b f2) (hc : JE X W c f3) (hm : lastMarks [o.op, o'.op] [b, c] = false := by with_unfolding_all rfl) : JE X W (.Compare a [o.op, o'.op] [b, c] pos) (fCh o.g o'.g f1 f2 f3) :=
  PE.imp (pe_chain o.hop o'.hop ha hb hc hm) fun σ H Q h => tE_ch o.ho o.hc o.hb o'.ho o'.hc h
theorem jt_ch (o o' : Od) (ha : JE X W a f1) (hb : JE X W b f2) (hc : JE X W c f3) (hm : lastMarks [o.op, o'.op] [b, c] = false := by with_unfolding_all rfl) : JT X W (.Compare a [o.op, o'.op] [b, c] pos) (fB (fCh o.g o'.g f1 f2 f3)) :=
  (pt_chain o.hop o'.hop ha hb hc hm).imp fun σ H Q h => tE_ch o.ho o.hc o.hb o'.ho o'.hc (tT_B h)
/-! ### a first statement that sets no slot, where the wish about errors may hang on the slots -/
theorem But.nil {σ σ' : L2.St} (b : But [] σ σ') : σ' = σ := List.ext_getElem? fun j => b.2 j (by simp)
theorem jss_cons0 {s : Stmt} {r : List Stmt} {f1 f2 : FS} (h1 : JS X W [] s f1) (h2 : JSs X W ts r f2) : JSs X W ts (s :: r) (fSeq f1 f2) := PSs.imp (pss_cons h1 h2) fun D σ H h => by
  obtain ⟨F, A, env, gd, re, m⟩ := h
  refine ⟨F, A, env, gd, re, (Run.bind m).imp (fun x hx => ?_) fun _ _ h => h⟩
  obtain ⟨fl, env1⟩ := x
  cases fl with
  | nx =>
    intro F1 A1 H1 σ1 s1 g1 r1 b1
    have e := b1.nil
    subst e
    exact ⟨F1, A1, env1, g1, r1, Run.imp hx (fun y hy => PostS.step hy s1 But.refl) fun c fs hq => PostX.step hq s1 fun _ z => z⟩
  | bk => exact fun F1 A1 H1 σ1 s1 g1 r1 b1 => hx F1 A1 H1 σ1 s1 g1 r1 (b1.mono fun _ h => nomatch h)
  | ct => exact fun F1 A1 H1 σ1 s1 g1 r1 b1 => hx F1 A1 H1 σ1 s1 g1 r1 (b1.mono fun _ h => nomatch h)
  | rt o => exact fun F1 B1 A1 H1 σ1 v s1 g1 r1 b1 => hx F1 B1 A1 H1 σ1 v s1 g1 r1 (b1.mono fun _ h => nomatch h)
/-! ### a display of constants -/
def vP : V → PV
  | .int i => .int i
  | .str s => .str s
  | .bl b => .bl b
  | _ => .non
def vOk : V → Bool
  | .int _ => true
  | .str _ => true
  | .bl _ => true
  | .non => true
  | _ => false
theorem vP_rep {mg : Gm} {F : Hp} {v : V} (h : vOk v = true) : Rep mg F (vP v) v := by
  cases v <;> first | rfl | cases h
def fDl (kvs : List (Key × V)) : FE := fun env => .ok (.dct (kvs.map fun kv => (kP kv.1, .val (vP kv.2))), env)
theorem fDl_rep {mg : Gm} {F H : Hp} : ∀ {kvs : List (Key × V)}, kvs.all (fun kv => vOk kv.2) = true → RepOKs mg F H (kvs.map fun kv => (kP kv.1, .val (vP kv.2))) kvs []
  | [], _ => ⟨rfl, rfl⟩
  | (k, v) :: l, h => by
    rw [List.all_cons, Bool.and_eq_true] at h
    exact ⟨k, v, l, [], [], rfl, rfl, rfl, ⟨rfl, vP_rep h.1⟩, fDl_rep h.2⟩
theorem tPairs_c {σ : L2.St} {H : Hp} {Q : List (V × V) → Hp → Prop} : ∀ (kvs : List (Key × V)), Q (kvs.map fun kv => (kV kv.1, kv.2)) H → tPairs (kvs.map fun kv => (tC (kV kv.1), tC kv.2)) σ H Q
  | [], h => h
  | (k, v) :: l, h => tPairs_c (Q := fun ps H3 => Q ((kV k, v) :: ps) H3) l h
theorem je_dl {keys : List (Option Expr)} {values : List Expr} {kvs : List (Key × V)} (h : PPs X pos keys values (kvs.map fun kv => (tC (kV kv.1), tC kv.2))) (hall : keys.all (·.isSome) = true) (hl : keys.length = values.length) (h0 : keys ≠ []) (h15 : keys.length ≤ 15) (hk : kvs.length ≤ 15)
    (ho : kvs.all (fun kv => vOk kv.2) = true) (hm : mergeK [] kvs = kvs) : JE X W (.Dict keys values pos) (fDl kvs) := PE.imp (pe_disp h hall hl h0 h15) fun σ H Q ⟨F, A, env, g, re, m⟩ p hp => by
  refine tPairs_c kvs ⟨upd_same, kvs, rfl, hk, ?_⟩
  rw [hm]
  obtain ⟨s1, g1⟩ := new_step (o := .dK []) (good_nil g) hp
  have e : upd (upd H p (.dK [])) p (.dK kvs) = upd H p (.dK kvs) := by
    funext b
    unfold upd
    split <;> rfl
  rw [e]
  obtain ⟨s2, g2⟩ := new_step (o := .dK kvs) (good_nil g) hp
  obtain ⟨q1, q2, q3⟩ := s2.aside g g2
  exact m F [p] A _ _ q2 q1 (re.up (fun _ _ z => z) q3) ⟨p, kvs, [], rfl, upd_same, rfl, fDl_rep ho⟩
theorem pe_strK {x y : Str} {j : Nat} {pos : Pos} (h : x = y) : PE X (.Constant (.str x) j pos) (tC (.str y)) := by
  subst h
  exact pe_str
theorem caught_one {mg : Str → Option Value} {K : PySem.W.Frag} {c0 c : Str} {C0 C : Addr} {cX : Value} {b : Bool} (hm : mg c0 = some (.ref C0)) (he : PySem.W.exmOne K (.ref C0) cX = some true) (h1 : (if c = c0 then some true else none) = some b) (h2 : cls mg c = some C) : PySem.W.exmOne K (.ref C) cX = some b := by
  split at h1
  · rename_i e
    subst e
    cases h1
    rw [cls_of hm] at h2
    cases h2
    exact he
  · cases h1
theorem caught_eq {mg : Str → Option Value} {c0 c : Str} {C0 C : Addr} (hm : mg c0 = some (.ref C0)) (h1 : (if c = c0 then some true else none) = some true) (h2 : cls mg c = some C) : C = C0 := by
  split at h1
  · rename_i e
    subst e
    rw [cls_of hm] at h2
    cases h2
    rfl
  · cases h1
end
end Ev

/-! # Ev 18: whole numbers of the module, dicts with tuples as keys, places within an owned tree -/
namespace Ev
open PySem L2

/-! ### a module's whole number -/
def GI (X : Cx) (x : Str) (i : Int) : Prop := ∃ t, X.mg x = some (.int i t)
section
variable {X : Cx} {W : WX} {ts : List Nat} {pos : Pos}
theorem je_gi {x : Str} {i : Int} (g : GI X x i) (hg : Gl X x) (hd : (x == ("__debug__" : Str)) = false := by decide) : JE X W (.Name x pos) (fC (.int i)) := by
  obtain ⟨t, h⟩ := g
  exact je_c (pe_glob (v := V.int i) hg h ⟨t, rfl⟩ hd) fun _ => rfl
/-! ### ~a -/
def gInv : PV → Res OV
  | .int i => ov (.int (Builtin.bitNot i))
  | _ => .stuck
theorem calm_inv : Calm1 gInv := fun p c fs h => by
  unfold gInv at h
  split at h <;> cases h
theorem je_inv {a : Expr} {f : FE} (ha : JE X W a f) : JE X W (.UnaryOp .Invert a pos) (fO1 gInv f) :=
  je_o1 un_inv (fun F H x p Q gd r m => by
    unfold gInv at m
    split at m
    · exact ⟨_, r, PostO.val m gd rfl⟩
    · exact m.elim) calm_inv ha
end

/-! ### dicts whose keys are tuples -/
def kOs : List PV → Option (List Key)
  | [] => some []
  | p :: l => match kO p, kOs l with
    | some k, some ks => some (k :: ks)
    | _, _ => none
def kT : PV → Option (List Key)
  | .tup l => kOs l
  | _ => none
def sV : PV → Option V
  | .non => some .non
  | .bl b => some (.bl b)
  | .int i => some (.int i)
  | .str s => some (.str s)
  | _ => none
theorem sV_rep {mg : Gm} {F : Hp} {p : PV} {v y : V} (h : sV p = some v) (r : Rep mg F p y) : y = v := by
  cases p with
  | non => cases h; exact r
  | bl _ => cases h; exact r
  | int _ => cases h; exact r
  | str _ => cases h; exact r
  | _ => cases h
theorem kOs_rep {mg : Gm} {F : Hp} : ∀ {l : List PV} {ks : List Key} {vs : List V}, kOs l = some ks → Reps mg F l vs → vs = ks.map kV
  | [], ks, vs, h, r => by
    cases h
    exact r
  | p :: l, ks, vs, h, r => by
    obtain ⟨v, vs', rfl, h1, h2⟩ := r
    unfold kOs at h
    split at h
    · rename_i k ks' e1 e2
      cases h
      have e := kO_ok e1
      subst e
      rw [kOs_rep e2 h2, rep_kP h1]
      rfl
    · cases h
theorem kT_rep {mg : Gm} {F : Hp} {p : PV} {ks : List Key} {v : V} (h : kT p = some ks) (r : Rep mg F p v) : ∃ b, v = .ref b ∧ F b = some (.tup (ks.map kV)) := by
  cases p with
  | tup l =>
    obtain ⟨a, vs, rfl, h1, h2⟩ := r
    have e := kOs_rep (show kOs l = some ks from h) h2
    subst e
    exact ⟨a, rfl, h1⟩
  | _ => cases h
def fT0 : FE := fun env => .ok (.dtt [], env)
def gTin (neg : Bool) (p d : PV) : Res OV := match d with
  | .dtt l => (match kT p with
    | some ks => ov (.bl (if neg = true then !(valV l ks).isSome else (valV l ks).isSome))
    | none => .stuck)
  | _ => .stuck
def gTget : PV → PV → Res OV
  | .dtt l, p => (match kT p with
    | some ks => (match valV l ks with
      | some v => if vOk v = true then ov (vP v) else .stuck
      | none => .stuck)
    | none => .stuck)
  | _, _ => .stuck
theorem calm_tin {n : Bool} : Calm2 (gTin n) := fun p q c fs h => by
  unfold gTin at h
  split at h
  · split at h <;> cases h
  · cases h
theorem calm_tget : Calm2 gTget := fun p q c fs h => by
  unfold gTget at h
  split at h
  · split at h
    · split at h
      · split at h <;> cases h
      · cases h
    · cases h
  · cases h
section
variable {X : Cx} {W : WX} {ts : List Nat} {pos : Pos} {mg : Gm} {F H : Hp} {σ : L2.St}
theorem je_t0 : JE X W (.Dict [] [] pos) fT0 := PE.imp pe_dnewT fun σ H Q ⟨F, A, env, g, re, m⟩ p hp => by
  have z : PostO X.gm F H Q (.dtt []) := post_op (σ := σ) m Step.refl g re
  obtain ⟨s, g'⟩ := new_step (o := .dT []) (good_nil g) hp
  exact z F [p] _ _ s g' ⟨p, rfl, upd_same, rfl⟩
theorem o2_tin {neg : Bool} : Op2 mg (rDin neg) (gTin neg) := fun F H x y p q Q gd r1 r2 m => by
  unfold gTin at m
  split at m
  · split at m
    · rename_i l _ ks hk
      obtain ⟨a, rfl, h1⟩ := r2
      obtain ⟨b, rfl, h2⟩ := kT_rep hk r1
      exact ⟨a, _, rfl, .inr ⟨l, ks, b, Rd.sub gd h1, rfl, gd.sub _ _ h2, rfl⟩, PostO.val m gd rfl⟩
    · exact m.elim
  · exact m.elim
theorem o2_tget : Op2 mg rDget gTget := fun F H x y p q Q gd r1 r2 m => by
  cases p with
  | dtt l =>
    have m' : Run (match kT q with
      | some ks => (match valV l ks with
        | some v => if vOk v = true then ov (vP v) else .stuck
        | none => .stuck)
      | none => .stuck) (PostO mg F H Q) (fun _ _ => False) := m
    split at m'
    · rename_i ks hk
      split at m'
      · rename_i v hv
        split at m'
        · rename_i ho
          obtain ⟨a, rfl, h1⟩ := r1
          obtain ⟨b, rfl, h2⟩ := kT_rep hk r2
          exact ⟨a, v, rfl, .inr ⟨l, ks, b, Rd.sub gd h1, rfl, gd.sub _ _ h2, hv.symm⟩, PostO.val m' gd (vP_rep ho)⟩
        · exact m'.elim
      · exact m'.elim
    · exact m'.elim
  | _ => exact m.elim
theorem je_tget {o i : Expr} {f1 f2 : FE} (hu : X.A.units + 1 < cLine) (ho : JE X W o f1) (hi : JE X W i f2) (hs : NoSl i) : JE X W (.Subscript o i pos) (fO2 gTget f1 f2) :=
  PE.imp (pe_dget hu ho hi hs) fun _ _ _ h => tE_O2 (r := rDget) o2_tget calm_tget h
theorem jt_tin {o i : Expr} {f1 f2 : FE} (hu : X.A.units + 1 < cLine) (hi : JE X W i f1) (ho : JE X W o f2) (h1 : behindInMarks .In o = false := by rfl) : JT X W (.Compare i [.In] [o] pos) (fB (fO2 (gTin false) f1 f2)) :=
  (pt_cmp (pc_din hu hi ho) h1).imp fun σ H Q h => tE_O2 (r := rDin false) o2_tin calm_tin (tT_B h)
theorem jt_tnin {o i : Expr} {f1 f2 : FE} (hu : X.A.units + 1 < cLine) (hi : JE X W i f1) (ho : JE X W o f2) (h1 : behindInMarks .NotIn o = false := by rfl) : JT X W (.Compare i [.NotIn] [o] pos) (fB (fO2 (gTin true) f1 f2)) :=
  (pt_cmp (pc_dnotin hu hi ho) h1).imp fun σ H Q h => tE_O2 (r := rDin true) o2_tin calm_tin (tT_B h)
theorem je_tin {o i : Expr} {f1 f2 : FE} (hu : X.A.units + 1 < cLine) (hi : JE X W i f1) (ho : JE X W o f2) (h1 : behindInMarks .In o = false := by rfl) : JE X W (.Compare i [.In] [o] pos) (fO2 (gTin false) f1 f2) :=
  PE.imp (pe_cmp (pc_din hu hi ho) h1) fun σ H Q h => tE_O2 (r := rDin false) o2_tin calm_tin h
theorem je_tnin {o i : Expr} {f1 f2 : FE} (hu : X.A.units + 1 < cLine) (hi : JE X W i f1) (ho : JE X W o f2) (h1 : behindInMarks .NotIn o = false := by rfl) : JE X W (.Compare i [.NotIn] [o] pos) (fO2 (gTin true) f1 f2) :=
  PE.imp (pe_cmp (pc_dnotin hu hi ho) h1) fun σ H Q h => tE_O2 (r := rDin true) o2_tin calm_tin h
/-- an owned dict of tuples in a slot -/
theorem slot_dtt {env : Env} {A C : List Addr} {i : Nat} {l : List (List Key × V)} (g : Good F (C ++ A) H) (re : REnv mg F H env σ A) (e : env[i]? = some (some (.dtt l))) :
    ∃ a, σ[i]? = some (some (.ref a)) ∧ H a = some (.dT l) ∧ C.Nodup ∧ ∀ l',
      ∃ A', REnv mg F (upd H a (.dT l')) (env.set i (some (.dtt l'))) σ A' ∧ Good F (C ++ A') (upd H a (.dT l')) ∧ Step F (C ++ A) H F (C ++ A') (upd H a (.dT l')) := by
  obtain ⟨v, B, A1, e1, r1, re1, pm⟩ := re.take e
  obtain ⟨a, rfl, h1, rfl⟩ := id r1
  have nc : C.Nodup := (List.nodup_append.mp g.nd).1
  refine ⟨a, e1, h1, nc, fun l' => ?_⟩
  obtain ⟨A', z1, z2, z3, _⟩ := slot_write (As := []) g re1 pm (List.getElem?_eq_some_iff.mp e).1 e1 (.dT l') (.dtt l') [] C (by rw [List.nil_append]; exact nc) (fun b hb => hb) fun H' ha k => ⟨a, rfl, ha, rfl⟩
  exact ⟨A', z1, z2, z3⟩
def isTT (env : Env) (i : Nat) : Bool := match env[i]? with
  | some (some (.dtt _)) => true
  | _ => false
def fTput (i : Nat) (fk f : FE) : FS := fun env => (f env).bind fun x => if isTT x.2 i = true then (vl x.1).bind fun q => (fk x.2).bind fun y => (vl y.1).bind fun p => match sV q, kT p, y.2[i]? with
    | some v, some ks, some (some (.dtt l)) => if l.length < 10000000 then .ok (.nx, y.2.set i (some (.dtt (putK l ks v)))) else .stuck
    | _, _, _ => .stuck
  else .stuck
theorem js_tput {o idx e : Expr} {i : Nat} {fk f : FE} {pos' : Pos} (hu : X.A.units + 1 < cLine) (ho : PE X o (tVar i)) (hk : JE X W idx fk) (he : JE X W e f) (hs : swapsWith e (some (.Subscript o idx pos')) pos.line X.env = pure false := by rfl) : JS X W ts (.Assign [.Subscript o idx pos'] e pos) (fTput i fk f) :=
  PS.imp (ps_dput hu ho hk he hs) fun D σ H h => by
    obtain ⟨F, A, env, gd, re, m⟩ := h
    refine ⟨F, A, env, gd, re, (Run.bind m).imp (fun x hx F1 B1 A1 H1 v s1 g1 r1 o1 => ?_) fun _ _ h => h⟩
    split at hx
    case isFalse => exact hx.elim
    rename_i hl
    obtain ⟨q, _, rq, rfl, hx2⟩ := vl_of hx o1
    have ed : ∃ l, x.2[i]? = some (some (.dtt l)) := by
      unfold isTT at hl
      split at hl
      · exact ⟨_, by assumption⟩
      · cases hl
    obtain ⟨l0, el0⟩ := ed
    obtain ⟨a, ea, _⟩ := slot_dtt (C := []) (by exact g1) r1 el0
    refine ⟨.ref a, ea, F1, A1, x.2, g1, r1, (Run.bind hx2).imp (fun y hy F2 B2 A2 H2 u s2 g2 r2 o2 => ?_) fun c fs hq => PostX.step hq s1 fun _ z => z⟩
    obtain ⟨p, _, rp, rfl, hy2⟩ := vl_of hy o2
    split at hy2
    · rename_i w ks l hsv hkt el
      split at hy2
      · rename_i hlen
        obtain ⟨a2, e2, h1, _, kk⟩ := slot_dtt (C := []) (by exact g2) r2 el
        rw [ea] at e2
        cases e2
        obtain ⟨b, rfl, hb⟩ := kT_rep hkt rp
        have ew := sV_rep hsv (rq.up s2.ext)
        subst ew
        obtain ⟨A', y1, y2, y3⟩ := kk (putK l ks v)
        exact ⟨a, _, rfl, .inr ⟨l, ks, b, h1, rfl, g2.sub _ _ hb, Nat.lt_of_lt_of_le hlen (by rw [sizeLine_eq]; decide), rfl⟩, hy2 F2 A' _ σ (s1.trans (s2.trans y3)) y2 y1 But.refl⟩
      · exact hy2.elim
    · exact hy2.elim
end

/-! ### a field that is frozen where it stands -/
def fSfz (c f : Str) (i : Nat) : FE := fun env => match env[i]? with
  | some (some (.ins c' fs)) => if c' = c then (match getF fs f with
    | some o => .ok (.val (fz o), env.set i (some (.ins c' (putFO f (.val (fz o)) fs))))
    | _ => .stuck) else .stuck
  | some (some (.val (.ins c' fs))) => if c' = c then (match getF fs f with
    | some p => .ok (.val p, env)
    | _ => .stuck) else .stuck
  | _ => .stuck
section
variable {mg : Gm} {F H : Hp}
theorem RepOFs.cut : ∀ {fs : List (Str × OV)} {gs : List (Str × V)} {A : List Addr} {f : Str} {o : OV}, RepOFs mg F H fs gs A → getF fs f = some o →
    ∃ v B A', gs.lookup f = some v ∧ RepO mg F H o v B ∧ A.Perm (B ++ A') ∧ ∀ (F' : Hp), (∀ a o, F a = some o → F' a = some o) → Rep mg F' (fz o) v → RepOFs mg F' H (putFO f (.val (fz o)) fs) gs A'
  | [], _, _, f, o, h, e => by cases e
  | (g, p) :: l, _, _, f, o, h, e => by
    obtain ⟨v, gs', A1, A2, rfl, rfl, h1, h2⟩ := h
    unfold getF at e
    by_cases q : g = f
    · rw [if_pos q] at e
      cases e
      refine ⟨v, A1, A2, by rw [look_cons, if_pos q], h1, List.Perm.refl _, fun F' ext r => ?_⟩
      unfold putFO
      rw [if_pos q]
      exact ⟨v, gs', [], A2, rfl, rfl, ⟨rfl, r⟩, h2.up ext fun _ _ _ z => z⟩
    · rw [if_neg q] at e
      obtain ⟨w, B, A', k1, k2, k3, k4⟩ := RepOFs.cut h2 e
      refine ⟨w, B, A1 ++ A', by rw [look_cons, if_neg q]; exact k1, k2, ?_, fun F' ext r => ?_⟩
      · exact (k3.append_left A1).trans (by
          rw [← List.append_assoc, ← List.append_assoc]
          exact List.Perm.append_right _ List.perm_append_comm)
      · unfold putFO
        rw [if_neg q]
        exact ⟨v, gs', A1, A', rfl, rfl, h1.up ext fun _ _ _ z => z, k4 F' ext r⟩
end
section
variable {X : Cx} {W : WX} {ts : List Nat} {pos : Pos} {c f : Str}
theorem je_sfz {e : Expr} {i : Nat} (k : Cf X c f) (he : PE X e (tVar i)) (hb : attributeBase e f X.env (eval e X.env) = eval e X.env := by rfl) : JE X W (.Attribute e f pos) (fSfz c f i) :=
  PE.imp (pe_fld he hb) fun σ H Q h => by
    obtain ⟨F, A, env, gd, re, m⟩ := h
    unfold fSfz at m
    split at m
    · rename_i c' fs e
      split at m
      · rename_i hc
        subst hc
        split at m
        · rename_i o hq
          obtain ⟨v, B0, A1, e1, r1, re1, pm⟩ := re.take e
          obtain ⟨a, C, dx, gs, As, rfl, h1, h2, hd, rfl, h3⟩ := r1
          obtain ⟨v, B, As', e2, ro, pm2, kk⟩ := h3.cut hq
          obtain ⟨k1, k2⟩ := k.ok C h1
          have pm3 : A.Perm (B ++ ((a :: dx :: As') ++ A1)) := by
            refine pm.trans ?_
            refine List.Perm.trans (List.Perm.append_right A1 (List.Perm.cons a (List.Perm.cons dx pm2))) ?_
            show (a :: dx :: ((B ++ As') ++ A1)).Perm _
            rw [List.append_assoc]
            exact (List.perm_append_comm_assoc [a, dx] B (As' ++ A1))
          obtain ⟨g3, s3⟩ := (gd.perm pm3).ice
          have rp : Rep X.gm (ice F H B) (fz o) v := ro.ice (ice_ext gd.sub) fun a ha u hu => by rw [ice_in ha]; exact hu
          have hi : i < env.length := by
            rw [List.getElem?_eq_some_iff] at e
            exact e.1
          have rn : RepO X.gm (ice F H B) H (.ins c' (putFO f (.val (fz o)) fs)) (.ref a) (a :: dx :: As') := ⟨a, C, dx, gs, As', rfl, h1, h2, hd, rfl, kk _ (ice_ext gd.sub) rp⟩
          obtain ⟨A2, r2, pm4⟩ := REnv.fill (i := i) (re1.up (ice_ext gd.sub) fun a _ o h => h) (by rw [List.getElem?_set_self hi]) rn
          rw [List.set_set] at r2
          have es : σ.set i (some (.ref a)) = σ := by
            rw [List.getElem?_eq_some_iff] at e1
            obtain ⟨h1, h2⟩ := e1
            rw [← h2]
            exact List.set_getElem_self h1
          rw [es] at r2
          exact ⟨.ref a, e1, a, C, dx, gs, v, rfl, h2, k1, k2, e2, m (ice F H B) [] A2 H v ((s3.more fun a ha => pm3.mem_iff.mpr ha).less fun a ha => pm4.mem_iff.mp ha) (g3.perm pm4.symm) r2 ⟨rfl, rp⟩⟩
        · exact m.elim
      · exact m.elim
    · rename_i c' fs e
      split at m
      · rename_i hc
        subst hc
        split at m
        · rename_i q hq
          obtain ⟨v, B, A', e1, ro, r', pm⟩ := re.take e
          obtain ⟨rfl, a, C, dx, gs, rfl, h1, h2, h3⟩ := ro
          obtain ⟨v, e2, e3⟩ := h3.get.1 q hq
          obtain ⟨k1, k2⟩ := k.ok C h1
          exact ⟨.ref a, e1, a, C, dx, gs, v, rfl, gd.sub _ _ h2, k1, k2, e2, post_val m gd re e3⟩
        · exact m.elim
      · exact m.elim
    · exact m.elim
end

/-! ### places within an owned tree -/
inductive Pe where
  | f (c f : Str) | x (k : Nat)
def gAt (env : Env) : OV → List Pe → Option OV
  | o, [] => some o
  | .ins c' fs, .f c f :: p => if c' = c then (getF fs f).bind fun o => gAt env o p else none
  | .lst l, .x k :: p => match env[k]? with
    | some (some (.val (.int z))) => (ixN l.length z).bind fun j => l[j]?.bind fun o => gAt env o p
    | _ => none
  | _, _ => none
def pAt (env : Env) : OV → List Pe → OV → Option OV
  | _, [], n => some n
  | .ins c' fs, .f c f :: p, n => if c' = c then (getF fs f).bind fun o => (pAt env o p n).map fun o' => .ins c' (putFO f o' fs) else none
  | .lst l, .x k :: p, n => match env[k]? with
    | some (some (.val (.int z))) => (ixN l.length z).bind fun j => l[j]?.bind fun o => (pAt env o p n).map fun o' => .lst (l.set j o')
    | _ => none
  | _, _, _ => none
/-- the value at the place -/
def VP (mg : Gm) (H : Hp) (σ : L2.St) : V → List Pe → V → Prop
  | v, [], u => v = u
  | v, .f c f :: p, u => ∃ a C dx gs w, v = .ref a ∧ cls mg.mg c = some C ∧ H a = some (.ins C dx gs) ∧ gs.lookup f = some w ∧ VP mg H σ w p u
  | v, .x k :: p, u => ∃ a vs z j w, v = .ref a ∧ H a = some (.lst vs) ∧ σ[k]? = some (some (.int z)) ∧ ixN vs.length z = some j ∧ vs[j]? = some w ∧ VP mg H σ w p u
theorem VP.snoc {mg : Gm} {H : Hp} {σ : L2.St} : ∀ {p q : List Pe} {v u : V}, VP mg H σ v (p ++ q) u → ∃ m, VP mg H σ v p m ∧ VP mg H σ m q u
  | [], q, v, u, h => ⟨v, rfl, h⟩
  | .f c f :: p, q, v, u, h => by
    obtain ⟨a, C, dx, gs, w, h1, h2, h3, h4, h5⟩ := h
    obtain ⟨m, k1, k2⟩ := VP.snoc h5
    exact ⟨m, ⟨a, C, dx, gs, w, h1, h2, h3, h4, k1⟩, k2⟩
  | .x k :: p, q, v, u, h => by
    obtain ⟨a, vs, z, j, w, h1, h2, h3, h4, h5, h6⟩ := h
    obtain ⟨m, k1, k2⟩ := VP.snoc h6
    exact ⟨m, ⟨a, vs, z, j, w, h1, h2, h3, h4, h5, k1⟩, k2⟩
def tPath (mg : Gm) (i : Nat) (p : List Pe) : TE := fun σ H Q => ∃ v u, σ[i]? = some (some v) ∧ VP mg H σ v p u ∧ Q u H
section
variable {X : Cx} {W : WX} {ts : List Nat} {pos : Pos}
theorem pp_v {e : Expr} {i : Nat} (h : PE X e (tVar i)) : PE X e (tPath X.gm i []) := PE.imp h fun σ H Q h => by
  obtain ⟨v, u, h1, h2, h3⟩ := h
  cases (show v = u from h2)
  exact ⟨v, h1, h3⟩
theorem pp_f {e : Expr} {i : Nat} {p : List Pe} {c f : Str} (k : Cf X c f) (h : PE X e (tPath X.gm i p)) (hb : attributeBase e f X.env (eval e X.env) = eval e X.env := by rfl) : PE X (.Attribute e f pos) (tPath X.gm i (p ++ [.f c f])) :=
  PE.imp (pe_fld h hb) fun σ H Q h => by
    obtain ⟨v, u, h1, h2, h3⟩ := h
    obtain ⟨m, q1, a, C, dx, gs, w, rfl, q2, q3, q4, q5⟩ := h2.snoc
    cases (show w = u from q5)
    obtain ⟨k1, k2⟩ := k.ok C q2
    exact ⟨v, .ref a, h1, q1, a, C, dx, gs, _, rfl, q3, k1, k2, q4, h3⟩
end
end Ev

/-! # Ev 19: stores at a place -/
namespace Ev
open PySem L2
section
variable {X : Cx} {W : WX} {ts : List Nat} {pos : Pos}
theorem pp_x {o n : Expr} {i k : Nat} {p : List Pe} (h : PE X o (tPath X.gm i p)) (hk : PE X n (tVar k)) (hs : PlainIx n := by intro _ _; rfl) : PE X (.Subscript o n pos) (tPath X.gm i (p ++ [.x k])) :=
  PE.imp (pe_ix ix_list h hk hs) fun σ H Q h => by
    obtain ⟨v, u, h1, h2, h3⟩ := h
    obtain ⟨m, q1, a, vs, z, j, w, rfl, q2, q3, q4, q5, q6⟩ := h2.snoc
    cases (show w = u from q6)
    refine ⟨v, .ref a, h1, q1, .int z, q3, a, vs, z, _, rfl, rfl, SqL.of q2, ?_, h3⟩
    unfold atI
    rw [q4]
    exact q5
end
section
variable {mg : Gm} {F H : Hp} {σ : L2.St}
/-- how a sub-list is written: the place's own address, what it holds, and what stands for the whole behind the store -/
def Wr (mg : Gm) (F H : Hp) (σ : L2.St) (env : Env) (p : List Pe) (l : List OV) (o : OV) (v : V) (A : List Addr) : Prop :=
  ∃ a vs As, VP mg H σ v p (.ref a) ∧ H a = some (.lst vs) ∧ RepOs mg F H l vs As ∧ a ∈ A ∧ (a :: As).Nodup ∧ (∀ b ∈ As, b ∈ A) ∧
    ∀ l' vs' As', RepOs mg F H l' vs' As' → As'.Nodup → (∀ b ∈ As', b ∈ As) → ∃ o' A', pAt env o p (.lst l') = some o' ∧ RepO mg F (upd H a (.lst vs')) o' v A' ∧ A'.Nodup ∧ ∀ b ∈ A', b ∈ A
theorem up_ne {o : OV} {v : V} {A : List Addr} {a : Addr} {u : HO} (h : RepO mg F H o v A) (n : a ∉ A) : RepO mg F (upd H a u) o v A := h.up (fun _ _ z => z) fun b hb w hw => by
  have q : b ≠ a := fun e => n (e ▸ hb)
  rw [upd_ne q]
  exact hw
theorem ups_ne {o : List OV} {v : List V} {A : List Addr} {a : Addr} {u : HO} (h : RepOs mg F H o v A) (n : a ∉ A) : RepOs mg F (upd H a u) o v A := h.up (fun _ _ z => z) fun b hb w hw => by
  have q : b ≠ a := fun e => n (e ▸ hb)
  rw [upd_ne q]
  exact hw
theorem upfs_ne {o : List (Str × OV)} {v : List (Str × V)} {A : List Addr} {a : Addr} {u : HO} (h : RepOFs mg F H o v A) (n : a ∉ A) : RepOFs mg F (upd H a u) o v A := h.up (fun _ _ z => z) fun b hb w hw => by
  have q : b ≠ a := fun e => n (e ▸ hb)
  rw [upd_ne q]
  exact hw
/-- one item of a list is written -/
theorem RepOs.one : ∀ {os : List OV} {vs : List V} {A : List Addr} {j : Nat} {o : OV}, RepOs mg F H os vs A → os[j]? = some o → A.Nodup →
    ∃ v B, vs[j]? = some v ∧ RepO mg F H o v B ∧ B.Nodup ∧ (∀ b ∈ B, b ∈ A) ∧ ∀ (a : Addr) (u : HO) (o' : OV) (B' : List Addr), a ∈ B → RepO mg F (upd H a u) o' v B' → B'.Nodup → (∀ b ∈ B', b ∈ B) → ∃ A', RepOs mg F (upd H a u) (os.set j o') vs A' ∧ A'.Nodup ∧ ∀ b ∈ A', b ∈ A
  | [], _, _, j, o, h, e, nd => by simp at e
  | q :: l, _, _, 0, o, h, e, nd => by
    obtain ⟨v, vs', A1, A2, rfl, rfl, h1, h2⟩ := h
    have e' : q = o := by simpa using e
    subst e'
    have n2 := List.nodup_append.mp nd
    refine ⟨v, A1, rfl, h1, n2.1, fun b hb => List.mem_append_left _ hb, fun a u o' B' ha r nb sb => ⟨B' ++ A2, ⟨v, vs', B', A2, rfl, rfl, r, ups_ne h2 fun z => n2.2.2 a ha a z rfl⟩, List.nodup_append.mpr ⟨nb, n2.2.1, fun x hx y hy => n2.2.2 x (sb x hx) y hy⟩, fun b hb => ?_⟩⟩
    rcases List.mem_append.mp hb with z | z
    · exact List.mem_append_left _ (sb b z)
    · exact List.mem_append_right _ z
  | q :: l, _, _, j + 1, o, h, e, nd => by
    obtain ⟨v, vs', A1, A2, rfl, rfl, h1, h2⟩ := h
    have n2 := List.nodup_append.mp nd
    obtain ⟨w, B, k1, k2, k3, k4, k5⟩ := RepOs.one (j := j) h2 (by simpa using e) n2.2.1
    refine ⟨w, B, by simpa using k1, k2, k3, fun b hb => List.mem_append_right _ (k4 b hb), fun a u o' B' ha r nb sb => ?_⟩
    obtain ⟨A', z1, z2, z3⟩ := k5 a u o' B' ha r nb sb
    refine ⟨A1 ++ A', ⟨v, vs', A1, A', rfl, rfl, up_ne h1 fun z => n2.2.2 a z a (k4 a ha) rfl, z1⟩, List.nodup_append.mpr ⟨n2.1, z2, fun x hx y hy => n2.2.2 x hx y (z3 y hy)⟩, fun b hb => ?_⟩
    rcases List.mem_append.mp hb with z | z
    · exact List.mem_append_left _ z
    · exact List.mem_append_right _ (z3 b z)
theorem RepOFs.one : ∀ {fs : List (Str × OV)} {gs : List (Str × V)} {A : List Addr} {f : Str} {o : OV}, RepOFs mg F H fs gs A → getF fs f = some o → A.Nodup →
    ∃ v B, gs.lookup f = some v ∧ RepO mg F H o v B ∧ B.Nodup ∧ (∀ b ∈ B, b ∈ A) ∧ ∀ (a : Addr) (u : HO) (o' : OV) (B' : List Addr), a ∈ B → RepO mg F (upd H a u) o' v B' → B'.Nodup → (∀ b ∈ B', b ∈ B) → ∃ A', RepOFs mg F (upd H a u) (putFO f o' fs) gs A' ∧ A'.Nodup ∧ ∀ b ∈ A', b ∈ A
  | [], _, _, f, o, h, e, nd => by cases e
  | (g, q) :: l, _, _, f, o, h, e, nd => by
    obtain ⟨v, vs', A1, A2, rfl, rfl, h1, h2⟩ := h
    have n2 := List.nodup_append.mp nd
    unfold getF at e
    by_cases hg : g = f
    · rw [if_pos hg] at e
      cases e
      refine ⟨v, A1, by rw [look_cons, if_pos hg], h1, n2.1, fun b hb => List.mem_append_left _ hb, fun a u o' B' ha r nb sb => ?_⟩
      unfold putFO
      rw [if_pos hg]
      refine ⟨B' ++ A2, ⟨v, vs', B', A2, rfl, rfl, r, upfs_ne h2 fun z => n2.2.2 a ha a z rfl⟩, List.nodup_append.mpr ⟨nb, n2.2.1, fun x hx y hy => n2.2.2 x (sb x hx) y hy⟩, fun b hb => ?_⟩
      rcases List.mem_append.mp hb with z | z
      · exact List.mem_append_left _ (sb b z)
      · exact List.mem_append_right _ z
    · rw [if_neg hg] at e
      obtain ⟨w, B, k1, k2, k3, k4, k5⟩ := RepOFs.one h2 e n2.2.1
      refine ⟨w, B, by rw [look_cons, if_neg hg]; exact k1, k2, k3, fun b hb => List.mem_append_right _ (k4 b hb), fun a u o' B' ha r nb sb => ?_⟩
      obtain ⟨A', z1, z2, z3⟩ := k5 a u o' B' ha r nb sb
      unfold putFO
      rw [if_neg hg]
      refine ⟨A1 ++ A', ⟨v, vs', A1, A', rfl, rfl, up_ne h1 fun z => n2.2.2 a z a (k4 a ha) rfl, z1⟩, List.nodup_append.mpr ⟨n2.1, z2, fun x hx y hy => n2.2.2 x hx y (z3 y hy)⟩, fun b hb => ?_⟩
      rcases List.mem_append.mp hb with z | z
      · exact List.mem_append_left _ z
      · exact List.mem_append_right _ (z3 b z)
theorem repO_wr {env : Env} {A0 : List Addr} {l : List OV} (re : REnv mg F H env σ A0) : ∀ {p : List Pe} {o : OV} {v : V} {A : List Addr}, RepO mg F H o v A → A.Nodup → gAt env o p = some (.lst l) → Wr mg F H σ env p l o v A
  | [], o, v, A, r, nd, e => by
    have e' : o = .lst l := by
      unfold gAt at e
      exact Option.some.inj e
    subst e'
    obtain ⟨a, vs, As, rfl, h1, rfl, h2⟩ := r
    refine ⟨a, vs, As, rfl, h1, h2, List.mem_cons_self, nd, fun b hb => List.mem_cons_of_mem _ hb, fun l' vs' As' r' nd' sb => ⟨.lst l', a :: As', by unfold pAt; rfl, ⟨a, vs', As', rfl, upd_same, rfl, ups_ne r' fun z => (List.nodup_cons.mp nd).1 (sb a z)⟩, List.nodup_cons.mpr ⟨fun z => (List.nodup_cons.mp nd).1 (sb a z), nd'⟩, fun b hb => ?_⟩⟩
    rcases List.mem_cons.mp hb with z | z
    · rw [z]; exact List.mem_cons_self
    · exact List.mem_cons_of_mem _ (sb b z)
  | .f c f :: p, o, v, A, r, nd, e => by
    cases o with
    | ins c' fs =>
      unfold gAt at e
      split at e
      case isFalse => cases e
      rename_i hc
      subst hc
      obtain ⟨o1, e1, e2⟩ := Option.bind_eq_some_iff.mp e
      obtain ⟨a0, C, dx, gs, As0, rfl, hC, hH, hd, rfl, h3⟩ := r
      have n1 := List.nodup_cons.mp nd
      have n2 := List.nodup_cons.mp n1.2
      obtain ⟨w, B, k1, k2, k3, k4, k5⟩ := h3.one e1 n2.2
      obtain ⟨a, vs, As, q1, q2, q3, q4, q5, q6, q7⟩ := repO_wr re k2 k3 e2
      have hne : a ≠ a0 := fun z => n1.1 (List.mem_cons_of_mem _ (z ▸ k4 a q4))
      have hne2 : a ≠ dx := fun z => n2.1 (z ▸ k4 a q4)
      refine ⟨a, vs, As, ⟨a0, C, dx, gs, w, rfl, hC, hH, k1, q1⟩, q2, q3, List.mem_cons_of_mem _ (List.mem_cons_of_mem _ (k4 a q4)), q5, fun b hb => List.mem_cons_of_mem _ (List.mem_cons_of_mem _ (k4 b (q6 b hb))), fun l' vs' As' r' nd' sb => ?_⟩
      obtain ⟨o', B', z1, z2, z3, z4⟩ := q7 l' vs' As' r' nd' sb
      obtain ⟨A', y1, y2, y3⟩ := k5 a _ o' B' q4 z2 z3 z4
      refine ⟨.ins c' (putFO f o' fs), a0 :: dx :: A', ?_, ⟨a0, C, dx, gs, A', rfl, hC, by rw [upd_ne hne.symm]; exact hH, by rw [upd_ne hne2.symm]; exact hd, rfl, y1⟩, List.nodup_cons.mpr ⟨fun z => ?_, List.nodup_cons.mpr ⟨fun z => n2.1 (y3 dx z), y2⟩⟩, fun b hb => ?_⟩
      · unfold pAt
        rw [if_pos rfl, e1]
        show (pAt env o1 p (.lst l')).map _ = _
        rw [z1]
        rfl
      · rcases List.mem_cons.mp z with z | z
        · exact n1.1 (z ▸ List.mem_cons_self)
        · exact n1.1 (List.mem_cons_of_mem _ (y3 a0 z))
      · rcases List.mem_cons.mp hb with z | z
        · rw [z]; exact List.mem_cons_self
        · rcases List.mem_cons.mp z with z | z
          · rw [z]; exact List.mem_cons_of_mem _ List.mem_cons_self
          · exact List.mem_cons_of_mem _ (List.mem_cons_of_mem _ (y3 b z))
    | _ => unfold gAt at e; cases e
  | .x k :: p, o, v, A, r, nd, e => by
    cases o with
    | lst l0 =>
      unfold gAt at e
      split at e
      case h_2 => cases e
      rename_i z hz
      obtain ⟨j, e1, e2⟩ := Option.bind_eq_some_iff.mp e
      obtain ⟨o1, e3, e4⟩ := Option.bind_eq_some_iff.mp e2
      obtain ⟨a0, vs0, As0, rfl, hH, rfl, h3⟩ := r
      have n1 := List.nodup_cons.mp nd
      obtain ⟨w, B, k1, k2, k3, k4, k5⟩ := h3.one e3 n1.2
      obtain ⟨a, vs, As, q1, q2, q3, q4, q5, q6, q7⟩ := repO_wr re k2 k3 e4
      have hne : a ≠ a0 := fun z => n1.1 (z ▸ k4 a q4)
      obtain ⟨zv, zB, zA, zs, zr, _⟩ := re.take hz
      obtain ⟨rfl, zr⟩ := zr
      have ez : zv = .int z := zr
      subst ez
      refine ⟨a, vs, As, ⟨a0, vs0, z, j, w, rfl, hH, zs, by rw [h3.len]; exact e1, k1, q1⟩, q2, q3, List.mem_cons_of_mem _ (k4 a q4), q5, fun b hb => List.mem_cons_of_mem _ (k4 b (q6 b hb)), fun l' vs' As' r' nd' sb => ?_⟩
      obtain ⟨o', B', z1, z2, z3, z4⟩ := q7 l' vs' As' r' nd' sb
      obtain ⟨A', y1, y2, y3⟩ := k5 a _ o' B' q4 z2 z3 z4
      refine ⟨.lst (l0.set j o'), a0 :: A', ?_, ⟨a0, vs0, A', rfl, by rw [upd_ne hne.symm]; exact hH, rfl, y1⟩, List.nodup_cons.mpr ⟨fun z => n1.1 (y3 a0 z), y2⟩, fun b hb => ?_⟩
      · unfold pAt
        rw [hz]
        show (ixN l0.length z).bind _ = _
        rw [e1]
        show l0[j]?.bind _ = _
        rw [e3]
        show (pAt env o1 p (.lst l')).map _ = _
        rw [z1]
        rfl
      · rcases List.mem_cons.mp hb with z | z
        · rw [z]; exact List.mem_cons_self
        · exact List.mem_cons_of_mem _ (y3 b z)
    | _ => unfold gAt at e; cases e
/-- a list at a place of slot i -/
theorem slot_path {env : Env} {A : List Addr} {i : Nat} {o : OV} {p : List Pe} {l : List OV} (g : Good F A H) (re : REnv mg F H env σ A) (e : env[i]? = some (some o)) (eg : gAt env o p = some (.lst l)) :
    ∃ w a vs As, σ[i]? = some (some w) ∧ VP mg H σ w p (.ref a) ∧ H a = some (.lst vs) ∧ RepOs mg F H l vs As ∧ As.Nodup ∧ ∀ l' vs' As', RepOs mg F H l' vs' As' → As'.Nodup → (∀ b ∈ As', b ∈ As) →
      ∃ o' A', pAt env o p (.lst l') = some o' ∧ REnv mg F (upd H a (.lst vs')) (env.set i (some o')) σ A' ∧ Good F A' (upd H a (.lst vs')) ∧ Step F A H F A' (upd H a (.lst vs')) := by
  obtain ⟨v, B, A1, e1, r1, re1, pm⟩ := re.take e
  have g2 := g.perm pm
  have nn := List.nodup_append.mp g2.nd
  obtain ⟨a, vs, As, q1, q2, q3, q4, q5, q6, q7⟩ := repO_wr re r1 nn.1 eg
  refine ⟨v, a, vs, As, e1, q1, q2, q3, (List.nodup_cons.mp q5).2, fun l' vs' As' r' nd' sb => ?_⟩
  obtain ⟨o', B', z1, z2, z3, z4⟩ := q7 l' vs' As' r' nd' sb
  have ha1 : a ∉ A1 := fun z => nn.2.2 a q4 a z rfl
  have hi : i < env.length := by
    rw [List.getElem?_eq_some_iff] at e
    exact e.1
  have re2 : REnv mg F (upd H a (.lst vs')) (env.set i none) σ A1 := re1.up (fun _ _ z => z) fun b hb w hw => by
    have q : b ≠ a := fun e => ha1 (e ▸ hb)
    rw [upd_ne q]
    exact hw
  obtain ⟨A2, r2, pmA⟩ := REnv.fill (i := i) re2 (by rw [List.getElem?_set_self hi]) z2
  rw [List.set_set] at r2
  have es : σ.set i (some v) = σ := by
    rw [List.getElem?_eq_some_iff] at e1
    obtain ⟨h1, h2⟩ := e1
    rw [← h2]
    exact List.set_getElem_self h1
  rw [es] at r2
  have inA : ∀ b ∈ B' ++ A1, b ∈ A := fun b hb => by
    refine pm.mem_iff.mpr ?_
    rcases List.mem_append.mp hb with z | z
    · exact List.mem_append_left _ (z4 b z)
    · exact List.mem_append_right _ z
  have aA : a ∈ A := pm.mem_iff.mpr (List.mem_append_left _ q4)
  have ndB : (B' ++ A1).Nodup := List.nodup_append.mpr ⟨z3, nn.2.1, fun x hx y hy => nn.2.2 x (z4 x hx) y hy⟩
  have aF := g.dis a aA
  have g3 : Good F (B' ++ A1) (upd H a (.lst vs')) := ⟨fun b w hw => by
      have : b ≠ a := fun e => by rw [e, aF] at hw; cases hw
      rw [upd_ne this]
      exact g.sub b w hw, ndB, fun b hb => g.dis b (inA b hb), fun b hb => by
      by_cases q : b = a
      · rw [q, upd_same]; simp
      · rw [upd_ne q]; exact g.tr b (inA b hb)⟩
  refine ⟨o', A2, z1, r2, g3.perm pmA.symm, ⟨fun _ _ z => z, fun b w hw nb => ?_, fun b x y => absurd y x, fun b hb => .inl (inA b (pmA.mem_iff.mp hb)), fun b hb => ?_⟩⟩
  · have q : b ≠ a := fun e => nb (e ▸ aA)
    rw [upd_ne q]
    exact hw
  · by_cases q : b = a
    · rw [q, upd_same]; simp
    · rw [upd_ne q]; exact hb
end
def fSetP (i : Nat) (p : List Pe) (k : Nat) (f : FE) : FS := fun env => (f env).bind fun x => match x.1, x.2[i]?, x.2[k]? with
  | .val q, some (some o), some (some (.val (.int z))) => (match gAt x.2 o p with
    | some (.lst l) => (match ixN l.length z with
      | some j => (match pAt x.2 o p (.lst (l.set j (.val q))) with
        | some o' => .ok (.nx, x.2.set i (some o'))
        | none => .stuck)
      | none => .stuck)
    | _ => .stuck)
  | _, _, _ => .stuck
section
variable {X : Cx} {W : WX} {ts : List Nat} {pos : Pos}
theorem js_setP {o idx e : Expr} {i k : Nat} {p : List Pe} {f : FE} {pos' : Pos} (ho : PE X o (tPath X.gm i p)) (hk : PE X idx (tVar k)) (he : JE X W e f) (hs : swapsWithSole [.Subscript o idx pos'] e pos.line X.env = pure false := by rfl) (hw : swappedStores [.Subscript o idx pos'] e X.env = pure none := by rfl)
    (h1 : (assignEach [.Subscript o idx pos'] X.env).map (·.2) = [assign (.Subscript o idx pos') X.env] := by rfl)
    (ha : ∀ v, assign (.Subscript o idx pos') X.env v = (do
      let ov ← holding [v] (eval o X.env)
      let iv ← holding [v, ov] (eval idx X.env)
      standAt pos'
      holding [v, ov, iv] (setItem ov iv v)
      release [v, ov, iv] []) := by intro _; rfl) : JS X W ts (.Assign [.Subscript o idx pos'] e pos) (fSetP i p k f) :=
  PS.imp (ps_asg he (pg_sub ho hk set_list ha) hs hw h1) fun D σ H h => by
    obtain ⟨F, A, env, gd, re, m⟩ := h
    refine ⟨F, A, env, gd, re, (Run.bind m).imp (fun x hx F1 B1 A1 H1 v s1 g1 r1 o1 => ?_) fun _ _ h => h⟩
    obtain ⟨xo, env1⟩ := x
    dsimp only at hx r1 o1
    split at hx
    case h_2 => exact hx.elim
    rename_i q o z e1 e2
    split at hx
    case h_2 => exact hx.elim
    rename_i l eg
    split at hx
    case h_2 => exact hx.elim
    rename_i j ej
    split at hx
    case h_2 => exact hx.elim
    rename_i o' ep
    obtain ⟨rfl, rq⟩ := o1
    have g1' : Good F1 A1 H1 := g1
    obtain ⟨w, a, vs, As, k1, k2, k3, k4, k5, k6⟩ := slot_path g1' r1 e1 eg
    obtain ⟨zv, zB, zA, zs, zr, _⟩ := r1.take e2
    obtain ⟨rfl, zr⟩ := zr
    have ez : zv = .int z := zr
    subst ez
    obtain ⟨B', y1, y2, y3⟩ := RepOs.setv (j := j) (o := .val q) (v := v) (C := []) k4 ⟨rfl, rq⟩ (by rw [List.append_nil]; exact k5)
    obtain ⟨o2, A', x1, x2, x3, x4⟩ := k6 _ _ B' y1 y2 fun b hb => by simpa using y3 b hb
    rw [ep] at x1
    cases x1
    exact ⟨w, .ref a, k1, k2, .int z, zs, a, vs, z, j, rfl, rfl, k3, by rw [k4.len]; exact ej, hx F1 A' _ σ (s1.trans x4) x3 x2 But.refl⟩
end
end Ev

/-! # Ev 20: sorted of tuples of whole numbers -/
namespace Ev
open PySem L2
def tupI : PV → Option (List Int)
  | .tup l => intsOf l
  | _ => none
def tupsI : List PV → Option (List (List Int))
  | [] => some []
  | p :: l => match tupI p, tupsI l with
    | some n, some ns => some (n :: ns)
    | _, _ => none
def tN (n : List Int) : PV := .tup (n.map .int)
theorem tupI_ok {p : PV} {n : List Int} (h : tupI p = some n) : p = tN n := by
  cases p with
  | tup l =>
    have e := intsOf_ok (show intsOf l = some n from h)
    unfold tN
    rw [e]
  | _ => cases h
theorem tupsI_ok : ∀ {l : List PV} {ns : List (List Int)}, tupsI l = some ns → l = ns.map tN
  | [], ns, h => by cases h; rfl
  | p :: l, ns, h => by
    unfold tupsI at h
    split at h
    · rename_i n ns' e1 e2
      cases h
      rw [tupI_ok e1, tupsI_ok e2]
      rfl
    · cases h
def cdB (n : List Int) : Int := TS.code 1000 n
def srtT (ns : List (List Int)) : List (List Int) := ns.mergeSort fun a b => decide (cdB a ≤ cdB b)
theorem srtT_perm (ns : List (List Int)) : (srtT ns).Perm ns := List.mergeSort_perm _ _
theorem srtT_le (ns : List (List Int)) : (srtT ns).Pairwise (fun a b => cdB a ≤ cdB b) := by
  have h := List.pairwise_mergeSort (le := fun a b : List Int => decide (cdB a ≤ cdB b)) (fun a b c h1 h2 => by
    simp only [decide_eq_true_eq] at h1 h2 ⊢
    omega) (fun a b => by
    simp only [Bool.or_eq_true, decide_eq_true_eq]
    omega) ns
  exact h.imp fun h => by simpa using h
theorem code_inj : ∀ {a b : List Int}, a.length = b.length → TS.Bd 1000 a → TS.Bd 1000 b → TS.code 1000 a = TS.code 1000 b → a = b
  | [], [], _, _, _, _ => rfl
  | [], _ :: _, h, _, _, _ => by cases h
  | _ :: _, [], h, _, _, _ => by cases h
  | d :: r, e :: q, hl, h1, h2, hc => by
    have hl' : r.length = q.length := Nat.succ.inj hl
    by_cases c1 : d < e
    · have := TS.code_lt hl' h1.tail h2.tail c1
      omega
    · by_cases c2 : e < d
      · have := TS.code_lt hl'.symm h2.tail h1.tail c2
        omega
      · have e0 : d = e := by omega
        subst e0
        have k1 : ¬ TS.code 1000 r < TS.code 1000 q := fun z => by
          have := (TS.code_same (d := d) hl').mpr z
          omega
        have k2 : ¬ TS.code 1000 q < TS.code 1000 r := fun z => by
          have := (TS.code_same (d := d) hl'.symm).mpr z
          omega
        rw [code_inj hl' h1.tail h2.tail (by omega)]
def okT (d : Nat) (n : List Int) : Bool := decide (n.length = d) && n.all fun i => decide (0 ≤ i) && decide (i < 1000)
theorem okT_bd {d : Nat} {n : List Int} (h : okT d n = true) : n.length = d ∧ TS.Bd 1000 n := by
  unfold okT at h
  rw [Bool.and_eq_true, decide_eq_true_eq, List.all_eq_true] at h
  refine ⟨h.1, fun m hm => ?_⟩
  have := h.2 m hm
  rw [Bool.and_eq_true, decide_eq_true_eq, decide_eq_true_eq] at this
  exact this
def gSortT (d : Nat) : List PV → Res OV
  | [.lst l] => (match tupsI l with
    | some ns => if ns.length < 64 ∧ (ns.all (okT d)) = true then .ok (.lst ((srtT ns).map fun n => .val (tN n))) else .stuck
    | none => .stuck)
  | _ => .stuck
theorem calm_sortT {d : Nat} : CalmN (gSortT d) := fun p c fs h => by
  unfold gSortT at h
  split at h
  · split at h
    · split at h <;> cases h
    · cases h
  · cases h
section
variable {mg : Gm} {F : Hp}
theorem reps_perm {xs ys : List V} (h : ys.Perm xs) : ∀ {l : List PV}, Reps mg F l xs → ∃ l', l'.Perm l ∧ Reps mg F l' ys := by
  have key : ∀ {a b : List V}, a.Perm b → ∀ {l : List PV}, Reps mg F l a → ∃ l', l'.Perm l ∧ Reps mg F l' b := by
    intro a b p
    induction p with
    | nil => intro l r; exact ⟨l, List.Perm.refl _, r⟩
    | cons x _ ih =>
      intro l r
      cases l with
      | nil => cases (show _ = [] from r)
      | cons q l =>
        obtain ⟨v, vs', e, h1, h2⟩ := r
        cases e
        obtain ⟨l', p', r'⟩ := ih h2
        exact ⟨q :: l', p'.cons q, _, _, rfl, h1, r'⟩
    | swap x y _ =>
      intro l r
      cases l with
      | nil => cases (show _ = [] from r)
      | cons q l =>
        obtain ⟨v, vs', e, h1, h2⟩ := r
        cases e
        cases l with
        | nil => cases (show _ = [] from h2)
        | cons q2 l =>
          obtain ⟨v2, vs2, e, h3, h4⟩ := h2
          cases e
          exact ⟨q2 :: q :: l, List.Perm.swap q q2 l, _, _, rfl, h3, _, _, rfl, h1, h4⟩
    | trans _ _ ih1 ih2 =>
      intro l r
      obtain ⟨l1, p1, r1⟩ := ih1 r
      obtain ⟨l2, p2, r2⟩ := ih2 r1
      exact ⟨l2, p2.trans p1, r2⟩
  intro l r
  exact key h.symm r
def unN (p : PV) : List Int := (tupI p).getD []
theorem unN_tN (n : List Int) : unN (tN n) = n := by
  show (intsOf (n.map .int)).getD [] = n
  rw [intsOf_map]
  rfl
theorem perm_tN {l : List PV} {ns : List (List Int)} (h : l.Perm (ns.map tN)) : ∃ ns' : List (List Int), l = ns'.map tN ∧ ns'.Perm ns := by
  refine ⟨l.map unN, ?_, ?_⟩
  · rw [List.map_map]
    have : l.map (tN ∘ unN) = l.map id := List.map_congr_left fun p hp => by
      obtain ⟨n, _, rfl⟩ := List.mem_map.mp (h.mem_iff.mp hp)
      show tN (unN (tN n)) = tN n
      rw [unN_tN]
    rw [this, List.map_id]
  · have h2 := h.map unN
    rw [List.map_map] at h2
    have : ns.map (unN ∘ tN) = ns.map id := List.map_congr_left fun n _ => unN_tN n
    rw [this, List.map_id] at h2
    exact h2
theorem reps_mem : ∀ {l : List PV} {vs : List V} {v : V}, Reps mg F l vs → v ∈ vs → ∃ p ∈ l, Rep mg F p v
  | [], _, v, r, h => by
    rw [show _ = [] from r] at h
    cases h
  | q :: l, _, v, r, h => by
    obtain ⟨w, vs', rfl, h1, h2⟩ := r
    rcases List.mem_cons.mp h with z | z
    · exact ⟨q, List.mem_cons_self, z ▸ h1⟩
    · obtain ⟨p, hp, hr⟩ := reps_mem h2 z
      exact ⟨p, List.mem_cons_of_mem _ hp, hr⟩
theorem tN_rep {H : Hp} {K : PySem.W.Frag} {n : List Int} {v : V} (gd : Good F [] H) (r : Rep mg F (tN n) v) : TupI K H v n := by
  obtain ⟨a, vs, rfl, h1, h2⟩ := r
  refine ⟨a, rfl, SqT.of ?_⟩
  have : vs = n.map V.int := by
    clear h1
    induction n generalizing vs with
    | nil => exact h2
    | cons i n ih =>
      obtain ⟨v, vs', rfl, h3, h4⟩ := h2
      rw [show v = V.int i from h3, ih _ h4]
      rfl
  rw [← this]
  exact gd.sub _ _ h1
theorem reps_pw {H : Hp} {K : PySem.W.Frag} (gd : Good F [] H) : ∀ {ns : List (List Int)} {ys : List V}, Reps mg F (ns.map tN) ys → ys.Pairwise (fun x y => ∀ n m, TupI K H x n → TupI K H y m → TS.code 1000 n ≤ TS.code 1000 m) → ns.Pairwise fun a b => cdB a ≤ cdB b
  | [], _, _, _ => List.Pairwise.nil
  | n :: ns, _, r, h => by
    obtain ⟨v, vs', rfl, h1, h2⟩ := r
    obtain ⟨p1, p2⟩ := List.pairwise_cons.mp h
    refine List.pairwise_cons.mpr ⟨fun m hm => ?_, reps_pw gd h2 p2⟩
    have : ∀ {ns : List (List Int)} {vs : List V}, Reps mg F (ns.map tN) vs → m ∈ ns → ∃ w ∈ vs, Rep mg F (tN m) w := by
      intro ns
      induction ns with
      | nil => intro vs _ h; cases h
      | cons a ns ih =>
        intro vs r h
        obtain ⟨w, ws, rfl, k1, k2⟩ := r
        rcases List.mem_cons.mp h with z | z
        · exact ⟨w, List.mem_cons_self, z ▸ k1⟩
        · obtain ⟨u, hu, hr⟩ := ih k2 z
          exact ⟨u, List.mem_cons_of_mem _ hu, hr⟩
    obtain ⟨w, hw, hr⟩ := this h2 hm
    exact p1 w hw n m (tN_rep gd h1) (tN_rep gd hr)
theorem on_sortT {d : Nat} : OpN mg (rSortU mg.K d 1000) (gSortT d) := fun F H xs ps Q gd r m => by
  unfold gSortT at m
  split at m
  · split at m
    · rename_i l _ ns e
      split at m
      · rename_i hc
        obtain ⟨hl, ho⟩ := hc
        obtain ⟨v, vs', rfl, ⟨a, ws, rfl, h1, h2⟩, rfl⟩ := r
        have el := tupsI_ok e
        subst el
        have hlen : ws.length = ns.length := by rw [h2.len, List.length_map]
        have ho' := List.all_eq_true.mp ho
        refine ⟨a, ws, rfl, SqL.of (gd.sub _ _ h1), by rw [hlen]; exact hl, fun x hx => ?_, fun ys p hp hs hn => ?_⟩
        · obtain ⟨q, hq, rq⟩ := reps_mem h2 hx
          obtain ⟨n, hn, rfl⟩ := List.mem_map.mp hq
          exact ⟨n, tN_rep gd rq, okT_bd (ho' n hn)⟩
        · obtain ⟨l', p1, r1⟩ := reps_perm hp h2
          obtain ⟨ns', rfl, p2⟩ := perm_tN p1
          have s1 := reps_pw gd r1 hs
          have e2 : ns' = srtT ns := List.Perm.eq_of_pairwise (le := fun a b => cdB a ≤ cdB b) (fun a b ha hb h1 h2 => by
            obtain ⟨a1, a2⟩ := okT_bd (ho' a (p2.mem_iff.mp ha))
            obtain ⟨b1, b2⟩ := okT_bd (ho' b ((srtT_perm ns).mem_iff.mp hb))
            exact code_inj (a1.trans b1.symm) a2 b2 (Int.le_antisymm h1 h2)) s1 (srtT_le ns) (p2.trans (srtT_perm ns).symm)
          subst e2
          refine PostO.lst (mg := mg) (ps := (srtT ns).map tN) ?_ gd hn r1
          rw [List.map_map]
          exact m
      · exact m.elim
    · exact m.elim
  · exact m.elim
end
end Ev

/-! # Ev 21: dict(d) of an owned dict that stays -/
namespace Ev
open PySem L2
def fPkT (t : FT) : FT := fun env => (t (frE env)).bind fun x => .ok (x.1, env)
def allVal : List (PV × OV) → Bool
  | [] => true
  | (_, .val _) :: l => allVal l
  | _ :: _ => false
def fDictO (i : Nat) : FE := fun env => match env[i]? with
  | some (some (.dct l)) => if allVal l = true then .ok (.dct l, env) else .stuck
  | some (some (.val (.dct l))) => .ok (.dct (l.map fun kv => (kv.1, .val kv.2)), env)
  | _ => .stuck
section
variable {mg : Gm} {F H : Hp}
theorem RepOKs.vals : ∀ {l : List (PV × OV)} {kvs : List (Key × V)} {A : List Addr}, allVal l = true → RepOKs mg F H l kvs A → ∀ H', RepOKs mg F H' l kvs []
  | [], _, _, _, h, _ => ⟨h.1, rfl⟩
  | (k, .val p) :: l, _, _, e, h, H' => by
    obtain ⟨q, v, kvs', A1, A2, rfl, rfl, hq, h1, h2⟩ := h
    exact ⟨q, v, kvs', [], [], rfl, rfl, hq, ⟨rfl, h1.2⟩, RepOKs.vals (l := l) e h2 H'⟩
  | (k, .lst _) :: l, _, _, e, _, _ => by cases e
  | (k, .dct _) :: l, _, _, e, _, _ => by cases e
  | (k, .ins _ _) :: l, _, _, e, _, _ => by cases e
  | (k, .dtt _) :: l, _, _, e, _, _ => by cases e
end
section
variable {X : Cx} {W : WX}
theorem je_dictO {x : Str} {p pos : Pos} {a : Expr} {i : Nat} (ho : PE X a (tVar i)) (hg : Gl X x) (hm : X.mg x = none) (hv : bootBuiltins x = some (.type "dict")) (hn : x ≠ "__name__" := by decide) (hdb : (x == ("__debug__" : Str)) = false := by decide)
    (h1 : starEach [a] X.env = (false, eval a X.env) :: starEach [] X.env := by rfl) (hpl : (backTo pos (starEach [] X.env)).any (·.1) = false := by rfl) : JE X W (.Call (.Name x p) [a] [] pos) (fDictO i) :=
  PE.imp (pe_callTy call_dictD hg hm hv (pa_cons ho pa_nil h1) hn hdb h1 hpl) fun σ H Q h => by
    obtain ⟨F, A, env, gd, re, m⟩ := h
    unfold fDictO at m
    split at m
    · rename_i l e
      split at m
      · rename_i hl
        obtain ⟨a, kvs, As, e1, h1, h2, _, _, _⟩ := slot_dct (C := []) (by exact gd) re e
        refine ⟨.ref a, e1, a, kvs, rfl, .inl h1, fun p hp => ?_⟩
        have z : PostO X.gm F H Q (.dct l) := post_op (σ := σ) m Step.refl gd re
        obtain ⟨s, g'⟩ := new_step (o := .dK kvs) (good_nil gd) hp
        exact z F [p] _ _ s g' ⟨p, kvs, [], rfl, upd_same, rfl, h2.vals hl _⟩
      · exact m.elim
    · rename_i l e
      obtain ⟨v, B, A', e1, ro, r', pm⟩ := re.take e
      obtain ⟨rfl, a, kvs, rfl, h1, h2⟩ := ro
      refine ⟨.ref a, e1, a, kvs, rfl, Rd.sub (good_nil gd) h1, fun p hp => ?_⟩
      have z : PostO X.gm F H Q (.dct (l.map fun kv => (kv.1, .val kv.2))) := post_op (σ := σ) m Step.refl gd re
      exact new_dct z (good_nil gd) hp h2
    · exact m.elim
/-- a test whose names are only read -/
theorem jt_pk {e : Expr} {t : FT} (h : JT X W e t) : JT X W e (fPkT t) := h.imp fun σ H Q h => by
  obtain ⟨F, A, env, gd, re, m⟩ := h
  have g0 : Good F (A ++ []) H := by rw [List.append_nil]; exact gd
  obtain ⟨g1, s1⟩ := g0.ice
  have fin : ∀ {F' H' : Hp}, Step (ice F H A) [] H F' [] H' → Good F' [] H' → Good F A H' ∧ Step F A H F A H' ∧ REnv X.gm F H' env σ A := fun {F' H'} s g' => by
    have kp : ∀ a ∈ A, ∀ o, H a = some o → H' a = some o := fun a ha o e => g'.sub a o (s.ext a o (by rw [ice_in ha]; exact e))
    have kf : ∀ a o, F a = some o → H' a = some o := fun a o e => g'.sub a o (s.ext a o (ice_ext gd.sub a o e))
    refine ⟨⟨kf, gd.nd, gd.dis, fun a ha => s.stay a (gd.tr a ha)⟩, ⟨fun _ _ z => z, fun a o e _ => s.frame a o e (by simp), fun a x y => absurd y x, fun a ha => .inl ha, s.stay⟩, re.up (fun _ _ z => z) kp⟩
  refine ⟨ice F H A, [], frE env, g1, re.frz (ice_ext gd.sub) fun a ha u e => by rw [ice_in ha]; exact e, (Run.bind m).imp (fun x hx F1 A1 H1 s g r => ?_) fun c fs hq F' H' C d s g' ec xd => ?_⟩
  · obtain ⟨z1, z2, z3⟩ := fin (s.less (A2 := []) fun a ha => nomatch ha) (g.sl (List.nil_sublist _))
    exact hx F A H1 z2 z1 z3
  · refine hq F' H' C d ⟨fun a o e => s.ext a o (ice_ext gd.sub a o e), fun a o e n => s.frame a o e (by simp), fun a x y => ?_, fun a ha => (nomatch ha), s.stay⟩ g' ec xd
    by_cases ha : a ∈ A
    · exact .inl ha
    · exact (s.newF a x (by rw [ice_out ha]; exact y)).imp (fun z => nomatch z) id
end
/-! min, max of three -/
def min3 (i j k : Int) : Int := if k < (if j < i then j else i) then k else (if j < i then j else i)
def max3 (i j k : Int) : Int := if (if i < j then j else i) < k then k else (if i < j then j else i)
def gMin3 : List PV → Res OV
  | [.int i, .int j, .int k] => ov (.int (min3 i j k))
  | _ => .stuck
def gMax3 : List PV → Res OV
  | [.int i, .int j, .int k] => ov (.int (max3 i j k))
  | _ => .stuck
theorem calm_min3 : CalmN gMin3 := fun p c fs h => by
  unfold gMin3 at h
  split at h <;> cases h
theorem calm_max3 : CalmN gMax3 := fun p c fs h => by
  unfold gMax3 at h
  split at h <;> cases h
theorem nu_min2 (i j : Int) : nuMin2 (.int i) (.int j) = some (.int (if j < i then j else i)) := by
  show (some (decide (j < i))).map _ = _
  by_cases h : j < i
  · rw [decide_eq_true h, if_pos h]; rfl
  · rw [decide_eq_false h, if_neg h]; rfl
theorem nu_max2 (i j : Int) : nuMax2 (.int i) (.int j) = some (.int (if i < j then j else i)) := by
  show (some (decide (i < j))).map _ = _
  by_cases h : i < j
  · rw [decide_eq_true h, if_pos h]; rfl
  · rw [decide_eq_false h, if_neg h]; rfl
theorem on_min3 {mg : Gm} : OpN mg (rNuC3 nuMin3) gMin3 := fun F H xs ps Q gd r m => by
  unfold gMin3 at m
  split at m
  · obtain ⟨v, vs', rfl, h1, v2, vs2, rfl, h2, v3, vs3, rfl, h3, rfl⟩ := r
    rw [show v = _ from h1, show v2 = _ from h2, show v3 = _ from h3]
    refine ⟨_, _, _, _, rfl, ?_, PostO.val m gd rfl⟩
    unfold nuMin3
    rw [nu_min2]
    exact nu_min2 _ _
  · exact m.elim
theorem on_max3 {mg : Gm} : OpN mg (rNuC3 nuMax3) gMax3 := fun F H xs ps Q gd r m => by
  unfold gMax3 at m
  split at m
  · obtain ⟨v, vs', rfl, h1, v2, vs2, rfl, h2, v3, vs3, rfl, h3, rfl⟩ := r
    rw [show v = _ from h1, show v2 = _ from h2, show v3 = _ from h3]
    refine ⟨_, _, _, _, rfl, ?_, PostO.val m gd rfl⟩
    unfold nuMax3
    rw [nu_max2]
    exact nu_max2 _ _
  · exact m.elim
end Ev

/-! # Ev 22: sorted of tuples of whole numbers, any length -/
namespace Ev
open PySem L2 PyProof.Rows
def kI1 (n : List Int) : List (Int ⊕ List Nat) := n.map Sum.inl
def ltT (a b : List Int) : Bool := lexLt itemOrd (kI1 a) (kI1 b)
def leT (a b : List Int) : Bool := !ltT b a
theorem kI1_inj : ∀ {a b : List Int}, kI1 a = kI1 b → a = b
  | [], [], _ => rfl
  | [], _ :: _, h => by cases h
  | _ :: _, [], h => by cases h
  | x :: a, y :: b, h => by
    have h' : (Sum.inl x : Int ⊕ List Nat) :: kI1 a = Sum.inl y :: kI1 b := h
    injection h' with h1 h2
    injection h1 with h1
    rw [h1, kI1_inj h2]
theorem leT_trans {a b c : List Int} (h1 : leT a b = true) (h2 : leT b c = true) : leT a c = true := by
  unfold leT ltT at *
  rw [Bool.not_eq_true'] at *
  cases q : lexLt itemOrd (kI1 c) (kI1 a) with
  | false => rfl
  | true =>
    rcases lex_negTrans (O := itemOrd) _ (kI1 b) _ q with z | z
    · rw [h2] at z; cases z
    · rw [h1] at z; cases z
theorem leT_total (a b : List Int) : (leT a b || leT b a) = true := by
  unfold leT ltT
  cases q : lexLt itemOrd (kI1 b) (kI1 a) with
  | false => rfl
  | true =>
    cases q2 : lexLt itemOrd (kI1 a) (kI1 b) with
    | false => rfl
    | true =>
      have := lex_trans (O := itemOrd) _ _ _ q q2
      rw [lex_irrefl] at this
      cases this
theorem leT_anti {a b : List Int} (h1 : leT a b = true) (h2 : leT b a = true) : a = b := by
  unfold leT ltT at *
  rw [Bool.not_eq_true'] at *
  exact kI1_inj (lex_total (O := itemOrd) _ _ h2 h1)
theorem leT_lt {x y : Int} {a b : List Int} (h : x < y) : leT (x :: a) (y :: b) = true := by
  unfold leT ltT
  show (!lexLt itemOrd (Sum.inl y :: kI1 b) (Sum.inl x :: kI1 a)) = true
  rw [lex_cons]
  show (!(decide (y < x) || (!decide (x < y) && _))) = true
  rw [decide_eq_false (by omega), decide_eq_true h]
  rfl
theorem leT_eq {x : Int} {a b : List Int} (h : leT a b = true) : leT (x :: a) (x :: b) = true := by
  unfold leT ltT at *
  show (!lexLt itemOrd (Sum.inl x :: kI1 b) (Sum.inl x :: kI1 a)) = true
  rw [lex_cons]
  show (!(decide (x < x) || (!decide (x < x) && _))) = true
  rw [decide_eq_false (by omega), Bool.false_or, Bool.not_false, Bool.true_and]
  exact h
def srtA (ns : List (List Int)) : List (List Int) := ns.mergeSort leT
theorem srtA_perm (ns : List (List Int)) : (srtA ns).Perm ns := List.mergeSort_perm _ _
theorem srtA_le (ns : List (List Int)) : (srtA ns).Pairwise (fun a b => leT a b = true) := List.pairwise_mergeSort (le := leT) (fun a b c h1 h2 => leT_trans h1 h2) (fun a b => leT_total a b) ns
theorem srtA_one {l m : List (List Int)} (p : l.Perm m) (h1 : l.Pairwise fun a b => leT a b = true) (h2 : m.Pairwise fun a b => leT a b = true) : l = m :=
  List.Perm.eq_of_pairwise (le := fun a b => leT a b = true) (fun a b _ _ h1 h2 => leT_anti h1 h2) h1 h2 p
theorem srtA_id {l : List (List Int)} (h : l.Pairwise fun a b => leT a b = true) : srtA l = l := srtA_one (srtA_perm l) (srtA_le l) h
def rSortA (K : PySem.W.Frag) : List V → Hp → VK → Prop := fun vs H Q => ∃ (a : Addr) (xs : List V), vs = [V.ref a] ∧ SqL K H a xs ∧ (∀ x ∈ xs, ∃ ns, TupI K H x ns ∧ ns ≠ []) ∧
  ∀ (ys : List V) (p : Addr), ys.Perm xs → ys.Pairwise (fun x y => ∀ n m, TupI K H x n → TupI K H y m → leT n m = true) → H p = none → Q (.ref p) (upd H p (.lst ys))
theorem tupItems_ints : ∀ {vs : List Value} {ns : List Int} {i : Nat}, IntsAre vs ns → tupItems (fun _ => false) i vs = some (kI1 ns)
  | [], ns, i, h => by
    cases h
    rfl
  | v :: vs, ns, i, h => by
    cases h with
    | cons n t h1 =>
      show (if false = true then none else (tupItems (fun _ => false) (i + 1) vs).map (Sum.inl _ :: ·)) = _
      rw [if_neg Bool.false_ne_true, tupItems_ints h1]
      rfl
theorem tup_key {h : Heap} {v : Value} {ns : List Int} (t : TS.TupInts h v ns) : G.tupKeyC h (fun _ => false) v = some (kI1 ns) := by
  obtain ⟨a, xs, rfl, ⟨o, ho, hc, n, hd⟩, hi⟩ := t
  unfold G.tupKeyC G.isTupObj tupKey
  simp only [ho, hc, hd]
  rw [if_pos (by simp)]
  exact tupItems_ints hi
theorem tup_of {h : Heap} {v : Value} {i : Int} {ns : List Int} (t : TS.TupInts h v (i :: ns)) : ∃ f, TupOf h (fun _ => false) v f := by
  obtain ⟨a, xs, rfl, ⟨o, ho, hc, n, hd⟩, hi⟩ := t
  have : ∃ f k t, xs[0]? = some f ∧ f = Value.int k t := by
    cases hx : xs.toList with
    | nil => rw [hx] at hi; cases hi
    | cons f r =>
      rw [hx] at hi
      cases hi with
      | cons n t h1 =>
        refine ⟨_, i, t, ?_, rfl⟩
        rw [← Array.getElem?_toList, hx]
        rfl
  obtain ⟨f, k, t, h1, h2⟩ := this
  exact ⟨f, a, o, xs, n, rfl, ho, hc, hd, h1, fun _ => ⟨k, t, h2⟩, fun z => by cases z⟩
theorem tups_of {h : Heap} : ∀ {vs : List Value}, (∀ v ∈ vs, ∃ ns, TS.TupInts h v ns ∧ ns ≠ []) → ∃ fs, TupsOf h (fun _ => false) vs fs
  | [], _ => ⟨[], .nil⟩
  | v :: vs, hx => by
    obtain ⟨ns, t, hne⟩ := hx v List.mem_cons_self
    obtain ⟨fs, r⟩ := tups_of fun u hu => hx u (List.mem_cons_of_mem _ hu)
    cases ns with
    | nil => exact absurd rfl hne
    | cons i ns =>
      obtain ⟨f, z⟩ := tup_of t
      exact ⟨f :: fs, .cons z r⟩
section
variable {X : Cx}
theorem cr_sortA : CallR X (.builtin "sorted") (rSortA X.K) := by
  intro pins s σ H vs us Q I r h
  obtain ⟨a, xs, rfl, hs, hx, q⟩ := h
  obtain ⟨its, rv, hl, hz⟩ := I.list hs
  rw [Vals.ref1 r]
  obtain ⟨e1, e2⟩ := bkV_refs rv fun x m => by
    obtain ⟨ns, ⟨t, e, _⟩, _⟩ := hx x m
    exact ⟨t, e⟩
  have raw : ∀ v ∈ its, ∃ ns, TS.TupInts s.heap v ns ∧ ns ≠ [] := fun v hv => by
    obtain ⟨t, rfl⟩ := e2 v hv
    have hm : V.ref t ∈ xs := by
      rw [e1]
      exact List.mem_map.mpr ⟨_, hv, rfl⟩
    obtain ⟨ns, ⟨t', e, ht⟩, hn⟩ := hx _ hm
    cases e
    exact ⟨ns, tupI_raw I ht, hn⟩
  obtain ⟨fs, tf⟩ := tups_of raw
  refine G.sorted_tups (shape := fun _ => false) hl.isList tf (fun v hv => ?_) (by rw [← rv.length]; exact hz) fun st' h1 h2 _ => ?_
  · obtain ⟨ns, t, _⟩ := raw v hv
    exact ⟨_, tup_key t⟩
  · obtain ⟨ep, he'⟩ := PyProof.Rows.sortedAll_at s.heap its ((arrOf st').map (·.2))
    have pl : (arrOf st').toList.Perm (its.zip its) := by
      have := Array.perm_iff_toList_perm.mp h1
      rw [pairsOf_toList] at this
      exact this
    have m : ∀ p ∈ (arrOf st').toList, p.1 = p.2 := fun p hp => (mem_zip_self (pl.mem_iff.mp hp)).1
    have hout : (((arrOf st').map (·.2)).toList).Perm its := by
      rw [Array.toList_map]
      have z := pl.map Prod.snd
      rw [List.map_snd_zip (Nat.le_refl _)] at z
      exact z
    have h3 : ∀ u ∈ ((arrOf st').map (·.2)).toList, ∃ a, u = Value.ref a := fun u hu => e2 u (hout.mem_iff.mp hu)
    have hp : (((arrOf st').map (·.2)).toList.map bkV).Perm xs := by
      rw [e1]
      exact hout.map bkV
    have hlen : (((arrOf st').map (·.2)).toList.map bkV).length ≤ sizeLine := by
      rw [hp.length_eq]
      exact hz
    refine ⟨.ref _, upd H (s.heap.objs.size + 1) (.lst (((arrOf st').map (·.2)).toList.map bkV)), I.laid (t' := s.toks) (fun _ _ => PyProof.Rows.sortedAll_old) (Nat.le_succ _) ⟨hlen, ((arrOf st').map (·.2)).toList, ep, bkV_vals h3, he'⟩, rfl, q _ _ hp ?_ (I.hok.fresh (Nat.le_succ _))⟩
    rw [Array.toList_map, List.map_map, List.pairwise_map]
    rw [List.pairwise_iff_getElem]
    intro i j hi hj hij n k hn hk
    have hsz : (arrOf st').size = (pairsOf its).size := by
      have := pl.length_eq
      rw [pairsOf_size]
      rw [List.length_zip, Nat.min_self] at this
      simpa using this
    have hij2 := h2 i j (Nat.le_of_lt hij) (by rw [← hsz]; simpa using hj)
    have key : ∀ (x : Nat) (hx : x < (arrOf st').toList.length) (ns : List Int), TupI X.K H (bkV (arrOf st').toList[x].2) ns → KK (G.tupKindC s.heap fun _ => false) (arrOf st') x = kI1 ns := fun x hx ns hn => by
      obtain ⟨t, et, ht⟩ := hn
      have eu := bkV_ref et
      have em := m _ (List.getElem_mem hx)
      unfold KK
      rw [← Array.getElem?_toList, List.getElem?_eq_getElem hx]
      show ((G.tupKeyC s.heap (fun _ => false) (arrOf st').toList[x].1).getD []) = _
      rw [em, eu, tup_key (tupI_raw I ht)]
      rfl
    have e3 := key i hi n hn
    have e4 := key j hj k hk
    rw [e3, e4] at hij2
    unfold leT ltT
    rw [Bool.not_eq_true']
    exact hij2
end
def okA (d : Nat) (n : List Int) : Bool := decide (n.length = d)
def gSortA (d : Nat) : List PV → Res OV
  | [.lst l] => (match tupsI l with
    | some ns => if 0 < d ∧ (ns.all (okA d)) = true then .ok (.lst ((srtA ns).map fun n => .val (tN n))) else .stuck
    | none => .stuck)
  | _ => .stuck
theorem calm_sortA {d : Nat} : CalmN (gSortA d) := fun p c fs h => by
  unfold gSortA at h
  split at h
  · split at h
    · split at h <;> cases h
    · cases h
  · cases h
section
variable {mg : Gm} {F : Hp}
theorem reps_pwA {H : Hp} {K : PySem.W.Frag} (gd : Good F [] H) : ∀ {ns : List (List Int)} {ys : List V}, Reps mg F (ns.map tN) ys → ys.Pairwise (fun x y => ∀ n m, TupI K H x n → TupI K H y m → leT n m = true) → ns.Pairwise fun a b => leT a b = true
  | [], _, _, _ => List.Pairwise.nil
  | n :: ns, _, r, h => by
    obtain ⟨v, vs', rfl, h1, h2⟩ := r
    obtain ⟨p1, p2⟩ := List.pairwise_cons.mp h
    refine List.pairwise_cons.mpr ⟨fun m hm => ?_, reps_pwA gd h2 p2⟩
    have : ∀ {ns : List (List Int)} {vs : List V}, Reps mg F (ns.map tN) vs → m ∈ ns → ∃ w ∈ vs, Rep mg F (tN m) w := by
      intro ns
      induction ns with
      | nil => intro vs _ h; cases h
      | cons a ns ih =>
        intro vs r h
        obtain ⟨w, ws, rfl, k1, k2⟩ := r
        rcases List.mem_cons.mp h with z | z
        · exact ⟨w, List.mem_cons_self, z ▸ k1⟩
        · obtain ⟨u, hu, hr⟩ := ih k2 z
          exact ⟨u, List.mem_cons_of_mem _ hu, hr⟩
    obtain ⟨w, hw, hr⟩ := this h2 hm
    exact p1 w hw n m (tN_rep gd h1) (tN_rep gd hr)
theorem on_sortA {d : Nat} : OpN mg (rSortA mg.K) (gSortA d) := fun F H xs ps Q gd r m => by
  unfold gSortA at m
  split at m
  · split at m
    · rename_i l _ ns e
      split at m
      · rename_i hc
        obtain ⟨hd, ho⟩ := hc
        obtain ⟨v, vs', rfl, ⟨a, ws, rfl, h1, h2⟩, rfl⟩ := r
        have el := tupsI_ok e
        subst el
        have ho' := List.all_eq_true.mp ho
        refine ⟨a, ws, rfl, SqL.of (gd.sub _ _ h1), fun x hx => ?_, fun ys p hp hs hn => ?_⟩
        · obtain ⟨q, hq, rq⟩ := reps_mem h2 hx
          obtain ⟨n, hn, rfl⟩ := List.mem_map.mp hq
          refine ⟨n, tN_rep gd rq, fun e0 => ?_⟩
          have := of_decide_eq_true (ho' n hn)
          rw [e0] at this
          simp at this
          omega
        · obtain ⟨l', p1, r1⟩ := reps_perm hp h2
          obtain ⟨ns', rfl, p2⟩ := perm_tN p1
          have s1 := reps_pwA gd r1 hs
          have e2 : ns' = srtA ns := srtA_one (p2.trans (srtA_perm ns).symm) s1 (srtA_le ns)
          subst e2
          refine PostO.lst (mg := mg) (ps := (srtA ns).map tN) ?_ gd hn r1
          rw [List.map_map]
          exact m
      · exact m.elim
    · exact m.elim
  · exact m.elim
end
end Ev

/-! # Ev 23: a dict display of one pair -/
namespace Ev
open PySem L2
theorem own_upd {F H : Hp} {A : List Addr} {p : Addr} (o : HO) (g : Good F (p :: A) H) : Step F (p :: A) H F (p :: A) (upd H p o) ∧ Good F (p :: A) (upd H p o) ∧ ∀ b ∈ A, ∀ w, H b = some w → upd H p o b = some w := by
  have np : ∀ b ∈ A, b ≠ p := fun b hb e => by
    subst e
    exact (List.nodup_cons.mp g.nd).1 hb
  have k : ∀ b w, b ≠ p → H b = some w → upd H p o b = some w := fun b w n h => by
    unfold upd
    rw [if_neg n]
    exact h
  refine ⟨⟨fun _ _ h => h, fun a w h na => k a w (fun e => na (by rw [e]; exact List.mem_cons_self)) h, fun a h e => absurd e h, fun a h => .inl h, fun a h => ?_⟩, ⟨fun a w h => k a w (fun e => ?_) (g.sub a w h), g.nd, g.dis, fun a h => ?_⟩, fun b hb w h => k b w (np b hb) h⟩
  · unfold upd
    split
    · exact fun z => by cases z
    · exact h
  · have := g.dis p List.mem_cons_self
    rw [← e, h] at this
    cases this
  · unfold upd
    split
    · exact fun z => by cases z
    · exact g.tr a h
def fD1 (fk fv : FE) : FE := fun env => (fk env).bind fun x => (vl x.1).bind fun k => (fv x.2).bind fun y => (vl y.1).bind fun v => match kO k with
  | some q => .ok (.dct [(kP q, .val v)], y.2)
  | none => .stuck
section
variable {X : Cx} {W : WX}
theorem je_d1 {ke ve : Expr} {fk fv : FE} {pos : Pos} (hk : JE X W ke fk) (hv : JE X W ve fv) : JE X W (.Dict [some ke] [ve] pos) (fD1 fk fv) :=
  PE.imp (pe_disp (pps_cons hk hv pps_nil) rfl rfl (fun e => by cases e) (Nat.le_of_ble_eq_true rfl)) fun σ H Q ⟨F, A, env, g, re, m⟩ p hp => by
    obtain ⟨s1, g1⟩ := new_step (o := .dK []) (good_nil g) hp
    obtain ⟨q1, q2, q3⟩ := s1.aside g g1
    have g0 : Good F ([p] ++ A) (upd H p (.dK [])) := q1
    have s0 : Step F A H F ([p] ++ A) (upd H p (.dK [])) := q2
    have sA : Step F A H F A (upd H p (.dK [])) := s0.less fun a h => List.mem_append_right _ h
    show tE X.gm W fk σ (upd H p (.dK [])) _
    refine ⟨F, A, env, g0.right, re.up (fun _ _ z => z) q3, (Run.bind m).imp (fun x hx F1 B1 A1 H1 k st1 gd1 r1 o1 => ?_) fun c fs hq => PostX.step hq sA fun _ z => z⟩
    obtain ⟨kp, _, rk, rfl, hx2⟩ := vl_of hx o1
    have gb : Good F1 ([p] ++ A1) H1 := (st1.beside g0 gd1).1
    have stb := (st1.beside g0 gd1).2.1
    have keep1 := (st1.beside g0 gd1).2.2 p List.mem_cons_self _ upd_same
    show tE X.gm W fv σ H1 _
    refine ⟨F1, A1, x.2, gb.right, r1, (Run.bind hx2).imp (fun y hy F2 B2 A2 H2 v st2 gd2 r2 o2 => ?_) fun c fs hq => PostX.step hq (sA.trans st1) fun _ z => z⟩
    obtain ⟨vp, _, rv, rfl, hy2⟩ := vl_of hy o2
    have gb2 : Good F2 ([p] ++ A2) H2 := (st2.beside gb gd2).1
    have stb2 := (st2.beside gb gd2).2.1
    have keep2 := (st2.beside gb gd2).2.2 p List.mem_cons_self _ keep1
    split at hy2
    case h_2 => exact hy2.elim
    rename_i q hq
    have ek := kO_ok hq
    subst ek
    have ek := rep_kP rk
    subst ek
    refine ⟨keep2, [(q, v)], rfl, Nat.le_of_ble_eq_true rfl, ?_⟩
    have em : mergeK [] [(q, v)] = [(q, v)] := rfl
    rw [em]
    obtain ⟨u1, u2, u3⟩ := own_upd (o := .dK [(q, v)]) gb2
    have hy3 : PostE X.gm F A H σ Q (.dct [(kP q, .val vp)], y.2) := hy2
    refine hy3 F2 [p] A2 _ _ (s0.trans (stb.trans (stb2.trans u1))) u2 (r2.up (fun _ _ z => z) u3) ⟨p, [(q, v)], [], rfl, upd_same, rfl, ⟨q, v, [], [], [], rfl, rfl, rfl, ⟨rfl, rv⟩, ⟨rfl, rfl⟩⟩⟩
end
end Ev

/-! # Ev 24: sorted(set(xs)), xs a list of ints below 64 -/
namespace Ev
open PySem L2 PyProof.Rows
abbrev newSetO (w : World) : Obj := { cls := .type "set", dict := none, data := .set #[] 0 (.fresh 0 0 (!w.params.followText "set-order")) }
section
variable {P : Program} {w : World} {A : Around} {E : Value → Shared → Prop} {s : Shared}
/-- the new set takes in the list -/
theorem set_fill {l : Addr} {items : Array Value} {ns : List Int} {R : Result → Shared → Prop} (hh : A.handled = none) (hl : s.heap.IsList l items) (hit : IntsAre items.toList ns) (hb : ns.length + 1 < scanBound)
    (h : ∀ (h' : Heap) (tk c : Nat), SetR w h' s.heap.objs.size (fun j => decide (j ∈ ns)) c → c ≤ ns.length → (∀ b o, s.heap.get? b = some o → h'.get? b = some o) → R (.ok (.ret .none)) { s with heap := h', toks := tk }) :
    codeAny (model P w) A (.call (.builtin "set.__init__") ⟨[.ref s.heap.objs.size, .ref l], []⟩) R { s with heap := s.heap.push (newSetO w) } := by
  have hS : (s.heap.push (newSetO w)).get? s.heap.objs.size = some (newSetO w) := Heap.get?_push_size _ rfl
  have hT : Shared.TypeIs { s with heap := s.heap.push (newSetO w) } (.ref s.heap.objs.size) "set" := ⟨_, hS, rfl⟩
  have hsz : items.size = ns.length := by
    have q := hit.length
    rwa [Array.length_toList] at q
  obtain ⟨⟨c0, d0, da, sl⟩, hol, hcl, n, hdl⟩ := hl
  simp only at hcl hdl
  subst hcl hdl
  refine codeAny_call_builtin F.called_set.init.plain F.entry_set_init (check_set_init_1 hT ?_)
  have hol' : (s.heap.push (newSetO w)).get? l = some { cls := .type "list", dict := d0, data := .seq items n, slots := sl } := Heap.get?_push_of_some _ hol
  have hl1 : (s.heap.push (newSetO w)).IsList l items := ⟨_, hol', rfl, n, rfl⟩
  have i1 := F.sub_list_set
  have i2 := F.sub_list_frozenset
  have i3 : (Value.type "list" == Value.type "dict") = false := by decide
  unfold Builtin.«set.__init__» noKeywords Builtin.Frozenset.updateFrom
  generalize hPI : pyIter = PI
  wp_walk
  subst hPI
  refine wpAny_pyIter_list hl1 (wpAny_bind (wpAny_runValue ?_))
  have hlt : l < s.heap.objs.size := Heap.lt_size hol
  have z1 : (s.heap.push (newSetO w)).objs.size = s.heap.objs.size + 1 := Heap.size_push ..
  have n1 : l ≠ (s.heap.push (newSetO w)).objs.size := by rw [z1]; exact Nat.ne_of_lt (Nat.lt_succ_of_lt hlt)
  have n2 : s.heap.objs.size ∉ [(s.heap.push (newSetO w)).objs.size, l] := by
    rw [z1]
    intro z
    rcases List.mem_cons.mp z with e | e
    · exact absurd e (Nat.ne_of_lt (Nat.lt_succ_self _))
    · exact absurd (List.mem_singleton.mp e) (Nat.ne_of_gt hlt)
  refine set_update_ints ((Walks.list (by simp [hh]) _ l n1 items).toS) s.heap.objs.size n2 ns hsz hb (fun i v hv => ?_) items.size 0 _ rfl (Nat.zero_le _) ⟨⟨_, Heap.get?_push_size _ rfl, rfl, rfl⟩, hl1.push _⟩ ⟨0, Nat.le_refl 0, setR_new_at (Heap.get?_push_of_some _ hS)⟩ ?_
  · have hi : i < ns.length := by rw [← hsz]; exact (Array.getElem?_eq_some_iff.mp hv).1
    obtain ⟨t, e⟩ := IntsAre.int_at hit i v (by rw [Array.getElem?_toList]; exact hv)
    refine ⟨ns[i], t, List.getElem?_eq_getElem hi, ?_⟩
    rw [e, List.getD_eq_getElem?_getD, List.getElem?_eq_getElem hi]
    rfl
  · intro s' c hm hc hS'
    obtain ⟨h', g', d', tk', os'⟩ := s'
    have eg : g' = s.gens := hm.gens
    have ed : d' = s.drawn := hm.drawn
    have eo : os' = s.os := hm.os
    subst eg ed eo
    refine wpAny_pure (wpAny_pure (h h' tk' c hS' (by omega) fun b o e => ?_))
    have hb0 : b < s.heap.objs.size := Heap.lt_size e
    refine hm.heap b o (fun z => ?_) (Heap.get?_push_of_some _ (Heap.get?_push_of_some _ e))
    rcases List.mem_cons.mp z with e1 | e1
    · exact absurd e1 (Nat.ne_of_lt hb0)
    · refine absurd (List.mem_singleton.mp e1) ?_
      rw [z1]
      exact Nat.ne_of_lt (Nat.lt_succ_of_lt hb0)
/-- set(xs) -/
theorem call_setL {l : Addr} {items : Array Value} {ns : List Int} {Q : Value → Shared → Prop} (hh : A.handled = none) (hl : s.heap.IsList l items) (hit : IntsAre items.toList ns) (hb : ns.length + 1 < scanBound)
    (h : ∀ (h' : Heap) (tk c : Nat), SetR w h' s.heap.objs.size (fun j => decide (j ∈ ns)) c → c ≤ ns.length → (∀ b o, s.heap.get? b = some o → h'.get? b = some o) → Q (.ref s.heap.objs.size) { s with heap := h', toks := tk }) :
    wpAny (model P w) A (call (.type "set") [.ref l]) Q E s := by
  obtain ⟨c, tl, hmro⟩ := F.called_set.mro
  have hmade := F.called_set.made
  have hsub := F.called_set.sub
  refine wpAny_call (codeAny_of_tree ?_)
  show wpAny _ _ (callAny (.type "set") _) _ _ _
  refine wpAny_pure ⟨Code.quiet_builtin _ (by decide +kernel), codeAny_builtin F.entry_type_call ?_⟩
  rw [Around.under_plain (weight_type_call_type "set" [.ref l] []) rfl]
  have h1 := F.called_set.notType
  have h2 := F.called_set.canCreate
  have hct := F.typeCall_set_1 (.ref l)
  repeat (any_goals (first | assumption | wp_step))
  refine codeAny_mono (code_set_led1 (.ref l) (E := E) (Q₁ := fun v s₁ => v = .ref s.heap.objs.size ∧ s₁ = { s with heap := s.heap.push (newSetO w) }) ⟨rfl, rfl⟩) fun r s₁ hr => ?_
  rcases r with e | fl
  · exact hr
  cases fl with
  | ret v =>
    obtain ⟨rfl, rfl⟩ := hr
    have hT : Shared.TypeIs { s with heap := s.heap.push (newSetO w) } (.ref s.heap.objs.size) "set" := ⟨_, Heap.get?_push_size _ rfl, rfl⟩
    have hli := F.called_set.init.lookup
    have hbi := F.called_set.init.bind (.ref s.heap.objs.size)
    repeat (any_goals (first | assumption | wp_step))
    refine codeAny_mono (set_fill (w := w) (R := wants (fun r s₂ => r = .none ∧ ∃ h' tk c, s₂ = { s with heap := h', toks := tk } ∧ SetR w h' s.heap.objs.size (fun j => decide (j ∈ ns)) c ∧ c ≤ ns.length ∧ ∀ b o, s.heap.get? b = some o → h'.get? b = some o) E) (by simp [hh]) hl hit hb fun h' tk c a1 a2 a3 => ⟨rfl, h', tk, c, rfl, a1, a2, a3⟩) fun r₂ s₂ hr₂ => ?_
    rcases r₂ with e | fl₂
    · exact hr₂
    cases fl₂ with
    | ret r =>
      obtain ⟨rfl, h', tk, c', rfl, a1, a2, a3⟩ := hr₂
      repeat (any_goals (first | assumption | wp_step))
      exact h _ _ _ a1 a2 a3
    | _ => exact hr₂.elim
  | _ => exact hr.elim
end
def rSetL (K : PySem.W.Frag) (w : World) : List V → Hp → VK → Prop := fun xs H Q => ∃ (a : Addr) (ns : List Int), xs = [.ref a] ∧ SqL K H a (ns.map V.int) ∧ ns.length < 64 ∧ ∀ (p : Addr) (c : Nat), H p = none → c ≤ ns.length → Q (.ref p) (upd H p (SetO w p (fun j => decide (j ∈ ns)) c))
theorem cr_setL {X : Cx} (hc : X.calm = true) : CallR X (.type "set") (rSetL X.K X.w) := by
  intro pins s σ H xs us Q I r h
  obtain ⟨a, ns, rfl, hs, h64, q⟩ := h
  obtain ⟨its, rv, hl, hz⟩ := I.list hs
  rw [Vals.ref1 r]
  refine call_setL (I.ok.hd hc) hl.isList (ints_of_vals rv) (by unfold scanBound; omega) fun h' tk c R hcn k => ?_
  exact ⟨.ref s.heap.objs.size, upd H s.heap.objs.size (SetO X.w s.heap.objs.size (fun j => decide (j ∈ ns)) c), I.laid (t' := tk) k (Nat.le_refl _) (setO_new R), rfl, q _ c (I.hok.fresh (Nat.le_refl _)) hcn⟩
/-! ### in order, each once -/
def dd : List Int → List Int
  | [] => []
  | a :: l => if a ∈ l then dd l else a :: dd l
theorem mem_dd {a : Int} : ∀ {l : List Int}, a ∈ dd l ↔ a ∈ l
  | [] => Iff.rfl
  | b :: l => by
    unfold dd
    split
    · rename_i h
      rw [mem_dd, List.mem_cons]
      exact ⟨.inr, fun z => z.elim (fun e => e ▸ h) id⟩
    · rw [List.mem_cons, List.mem_cons, mem_dd]
theorem dd_nodup : ∀ l : List Int, (dd l).Nodup
  | [] => List.nodup_nil
  | b :: l => by
    unfold dd
    split
    · exact dd_nodup l
    · rename_i h
      exact List.nodup_cons.mpr ⟨fun z => h (mem_dd.mp z), dd_nodup l⟩
def usrt (ns : List Int) : List Int := srt (dd ns)
theorem mem_usrt {a : Int} {l : List Int} : a ∈ usrt l ↔ a ∈ l := by
  unfold usrt srt
  rw [(List.mergeSort_perm _ _).mem_iff, mem_dd]
theorem usrt_pw (l : List Int) : (usrt l).Pairwise (· < ·) := by
  unfold usrt srt
  have h := List.pairwise_mergeSort (le := fun a b : Int => decide (a ≤ b)) (fun a b c h1 h2 => by
    have := of_decide_eq_true h1
    have := of_decide_eq_true h2
    exact decide_eq_true (by omega)) (fun a b => by
    by_cases q : a ≤ b
    · rw [decide_eq_true q]; rfl
    · rw [decide_eq_true (show b ≤ a by omega), Bool.or_true]) (dd l)
  have n : ((dd l).mergeSort fun a b : Int => decide (a ≤ b)).Nodup := (List.mergeSort_perm _ _).nodup_iff.mpr (dd_nodup l)
  exact (h.and n).imp fun ⟨a, b⟩ => by
    have := of_decide_eq_true a
    omega
theorem strict_one : ∀ {l m : List Int}, l.Pairwise (· < ·) → m.Pairwise (· < ·) → (∀ a, a ∈ l ↔ a ∈ m) → l = m
  | [], [], _, _, _ => rfl
  | [], b :: m, _, _, h => absurd ((h b).mpr List.mem_cons_self) (fun z => nomatch z)
  | a :: l, [], _, _, h => absurd ((h a).mp List.mem_cons_self) (fun z => nomatch z)
  | a :: l, b :: m, h1, h2, h => by
    obtain ⟨p1, q1⟩ := List.pairwise_cons.mp h1
    obtain ⟨p2, q2⟩ := List.pairwise_cons.mp h2
    have e : a = b := by
      rcases List.mem_cons.mp ((h a).mp List.mem_cons_self) with z | z
      · exact z
      · rcases List.mem_cons.mp ((h b).mpr List.mem_cons_self) with y | y
        · exact y.symm
        · have := p2 a z
          have := p1 b y
          omega
    subst e
    congr 1
    refine strict_one q1 q2 fun c => ⟨fun z => ?_, fun z => ?_⟩
    · rcases List.mem_cons.mp ((h c).mp (List.mem_cons_of_mem _ z)) with y | y
      · have := p1 c z
        omega
      · exact y
    · rcases List.mem_cons.mp ((h c).mpr (List.mem_cons_of_mem _ z)) with y | y
      · have := p2 c z
        omega
      · exact y
def gSrtS : List PV → Res OV
  | [.lst l] => (match intsOf l with
    | some ns => if ns.length < 64 then .ok (.lst ((usrt ns).map fun n => .val (.int n))) else .stuck
    | none => .stuck)
  | _ => .stuck
theorem calm_srtS : CalmN gSrtS := fun p c fs h => by
  unfold gSrtS at h
  split at h
  · split at h
    · split at h <;> cases h
    · cases h
  · cases h
def rSrtS (K : PySem.W.Frag) (w : World) : List V → Hp → VK → Prop := fun vs H Q => rSetL K w vs H fun v H1 => rSortedSet w [v] H1 Q
theorem on_srtS {mg : Gm} {w : World} : OpN mg (rSrtS mg.K w) gSrtS := fun F H xs ps Q gd r m => by
  unfold gSrtS at m
  split at m
  · split at m
    · rename_i l _ ns e
      split at m
      · rename_i h64
        obtain ⟨v, vs', rfl, ⟨a, ws, rfl, h1, h2⟩, rfl⟩ := r
        have el := intsOf_ok e
        subst el
        have h2' := Reps.ints h2
        subst h2'
        refine ⟨a, ns, rfl, SqL.of (gd.sub _ _ h1), h64, fun p c hp hc => ?_⟩
        refine ⟨p, _, c, rfl, upd_same, by omega, fun ks q hs hm hl hq => ?_⟩
        have e1 : ks = usrt ns := strict_one hs (usrt_pw ns) fun k => by
          rw [hm k, mem_usrt, decide_eq_true_eq]
        subst e1
        obtain ⟨s1, g1⟩ := new_step (o := SetO w p (fun j => decide (j ∈ ns)) c) gd hp
        have g0 : Good F [] (upd H p (SetO w p (fun j => decide (j ∈ ns)) c)) := g1.sl (List.nil_sublist _)
        have s0 : Step F [] H F [] (upd H p (SetO w p (fun j => decide (j ∈ ns)) c)) := s1.less fun a h => nomatch h
        refine PostO.lst (mg := mg) (ps := (usrt ns).map PV.int) ?_ g0 hq ?_
        · rw [List.map_map]
          exact fun F' B H' v s g ro => m F' B H' v (s0.trans s) g ro
        · exact reps_ints _
      · exact m.elim
    · exact m.elim
  · exact m.elim
section
variable {X : Cx} {W : WX}
theorem je_srtS {p p2 pos pos2 : Pos} {e : Expr} {fa : FA} {sl : List (Option Nat)} (hc : X.calm = true) (hg : Gl X "sorted") (hm : X.mg "sorted" = none) (hv : bootBuiltins ("sorted" : Str) = some (.builtin "sorted")) (hg2 : Gl X "set") (hm2 : X.mg "set" = none) (hv2 : bootBuiltins ("set" : Str) = some (.type "set"))
    (ha : JA X W [e] sl fa) (he : starEach [e] X.env = [(false, eval e X.env)] := by rfl) (he2 : starEach [Expr.Call (.Name "set" p2) [e] [] pos2] X.env = [(false, eval (.Call (.Name "set" p2) [e] [] pos2) X.env)] := by rfl) : JE X W (.Call (.Name "sorted" p) [.Call (.Name "set" p2) [e] [] pos2] [] pos) (fCB gSrtS fa) := by
  have i1 : PE X (.Call (.Name "set" p2) [e] [] pos2) (tCB (rSetL X.K X.w) (tA X.gm W sl fa)) := pe_callTy (cr_setL hc) hg2 hm2 hv2 ha (by decide) (by decide) he (by rfl)
  have i2 : PE X (.Call (.Name "sorted" p) [.Call (.Name "set" p2) [e] [] pos2] [] pos) (tCB (rSortedSet X.w) (tCons (tCB (rSetL X.K X.w) (tA X.gm W sl fa)) tNil)) := pe_callB (cr_sortedSet hc) hg hm hv (pa_cons i1 pa_nil he2) (by decide) (by decide) he2 (by rfl)
  exact PE.imp i2 fun σ H Q h => tE_CB (r := rSrtS X.K X.w) (sl := sl) on_srtS calm_srtS h
end
end Ev

/-! # Ev 25: C(..) where the error is asked for at the slots (within try) -/
namespace Ev
open PySem L2
section
variable {X : Cx} {CX : CXT} {k : Nat} {f C : Addr} {fd : FuncData} {ps : List Str} {sp : Sp} {E : L2.St → XK} {x : Str} {p pos : Pos} {e : Expr} {es : List Expr} {t : TA}
theorem run_makeS {pins : List (Addr × Obj)} {σ : L2.St} {H : Hp} {s : Shared} {Q : VK} {us : List Value} {vs : List V} (M : Mk X.K C f) (F : FnOk X.prog X.w X.K X.mg X.base CX k f fd ps sp) (hr : Room (k + 1) X.A) (hb : Binds X.K fd ps [])
    (hx : PassesAt CX X σ (E σ)) (I : Inv X pins σ H s) (r : Vals vs us)
    (h : ∀ x dx, H x = none → H dx = none → dx ≠ x → sp (.ref x :: vs) (upd (upd H dx (.own x)) x (.ins C dx [])) (fun v H2 => v = .non ∧ Q (.ref x) H2) (E σ)) :
    wpAny (model X.prog X.w) X.A (call (.ref C) us) (EP X pins σ Q) X.xe s := by
  have hq := h (s.heap.objs.size + 1) s.heap.objs.size (I.hok.fresh (Nat.le_succ _)) (I.hok.fresh (Nat.le_refl _)) (Nat.ne_of_lt (Nat.lt_succ_self _))
  have I2 := Inv.made (C := C) I
  have r2 : Vals (V.ref (s.heap.objs.size + 1) :: vs) (Value.ref (s.heap.objs.size + 1) :: us) := .cons rfl r
  have hl : (Value.ref (s.heap.objs.size + 1) :: us).length = ps.length := by
    rw [← r2.length]
    exact F.len _ _ _ _ hq
  have b := hb _ (Value.ref (s.heap.objs.size + 1) :: us) I2.kIn (by rw [List.append_nil]; exact hl)
  rw [List.append_nil] at b
  refine wpAny_call (make_map (f := f) I.kIn M.makes M.init (beq_iff_eq.mp M.fn) (codeAny_mono (F.run _ X.stack _ _ ⟨Value.ref (s.heap.objs.size + 1) :: us, []⟩ (Value.ref (s.heap.objs.size + 1) :: us) _ _ (E σ) (hr.make C us []) (I2.env0.make C us []) b r2 hq) fun r s' hq' => ?_))
  cases r with
  | error e => exact hx pins _ _ e s' I2 hq'
  | ok fl =>
    cases fl with
    | ret u =>
      obtain ⟨v, H', I3, rv, ev, q3⟩ := I2.after hq'
      subst ev
      exact ⟨rv, V.ref (s.heap.objs.size + 1), H', I3, rfl, q3⟩
    | next => exact hq'.elim
    | brk => exact hq'.elim
    | cont => exact hq'.elim
def tMakeS (C : Addr) (sp : Sp) (E : L2.St → XK) (t : TA) : TE := fun σ H Q => t σ H fun vs H1 => ∀ x dx, H1 x = none → H1 dx = none → dx ≠ x →
  sp (.ref x :: vs) (upd (upd H1 dx (.own x)) x (.ins C dx [])) (fun v H2 => v = .non ∧ Q (.ref x) H2) (E σ)
theorem pe_makeS (M : Mk X.K C f) (F : FnOk X.prog X.w X.K X.mg X.base CX k f fd ps sp) (hr : Room (k + 1) X.A) (hg : Gl X x) (hm : X.mg x = some (.ref C)) (hb : Binds X.K fd ps []) (hx : ∀ σ, PassesAt CX X σ (E σ))
    (ha : PA X (e :: es) t) (hdb : (x == ("__debug__" : Str)) = false := by decide) (he : starEach (e :: es) X.env = (false, eval e X.env) :: starEach es X.env := by rfl) (hpl : (backTo pos (starEach es X.env)).any (·.1) = false := by rfl) :
    PE X (.Call (.Name x p) (e :: es) [] pos) (tMakeS C sp E t) := by
  refine ⟨fun pins s σ H Q I h => ?_⟩
  refine wpAny_Call_Name_kw (ld_glob I hg hm ?_ hdb)
  refine PySem.W.callWith_K (h₀ := X.base) I.ok.mod.kin M.kp (thn (ha.run pos pins s σ H _ I h) fun us s1 ⟨vs, H1, I1, r, q⟩ => ⟨I1.kIn, ?_⟩) he hpl
  exact run_makeS M F hr hb (hx σ) I1 r q
end
section
variable {X : Cx} {W : WX} {c : Str}
theorem tE_makeS {mg : Gm} {C : Addr} {n : Nat} {g : FF} {sl : List (Option Nat)} {fa : FA} {σ : L2.St} {H : Hp} {Q : VK} (hC : cls mg.mg c = some C) (hn : sl.length + 1 = n) (h : tE mg W (fMake c g fa) σ H Q) : tMakeS C (spF mg n [0] g) (WE W) (tA mg W sl fa) σ H Q := by
  have ns : NoS (fun c d _ H => W c d σ H) := fun _ _ _ _ _ h => h
  obtain ⟨F, A, env, gd, re, mm⟩ := h
  have h2 : tE mg (fun c d _ H => W c d σ H) (fMake c g fa) σ H Q := ⟨F, A, env, gd, re, mm⟩
  obtain ⟨F, A, env, gd, re, mm⟩ := tE_make (sl := sl) ns hC hn h2
  refine ⟨F, A, env, gd, re, mm.imp (fun y hy F1 B1 A1 H1 vs s1 g1 r1 o1 so x dx hx hdx hne => ?_) fun _ _ h => h⟩
  have q := hy F1 B1 A1 H1 vs s1 g1 r1 o1 so x dx hx hdx hne
  rw [List.append_nil] at q
  exact spF_imp q fun c d H z => z σ
theorem je_makeS {C : Addr} {k : Nat} {f : Addr} {fd : FuncData} {ps : List Str} {n : Nat} {g : FF} {p pos : Pos} {e : Expr} {es : List Expr} {sl : List (Option Nat)} {fa : FA} (tk : Takes X W) (M : Mk X.K C f) (F : FnOk X.prog X.w X.K X.mg X.base (L2.CX X.prog X.w) k f fd ps (spF X.gm n [0] g)) (hr : Room (k + 1) X.A) (hg : Gl X c) (hm : X.mg c = some (.ref C)) (hb : Binds X.K fd ps [])
    (ha : JA X W (e :: es) sl fa) (hn : sl.length + 1 = n := by rfl) (hdb : (c == ("__debug__" : Str)) = false := by decide) (he : starEach (e :: es) X.env = (false, eval e X.env) :: starEach es X.env := by rfl) (hpl : (backTo pos (starEach es X.env)).any (·.1) = false := by rfl) : JE X W (.Call (.Name c p) (e :: es) [] pos) (fMake c g fa) :=
  PE.imp (pe_makeS M F hr hg hm hb (fun σ => passAt tk σ) ha hdb he hpl) fun _ _ _ h => tE_makeS (cls_of hm) hn h
end
end Ev

/-! # LM 0: the combinators by steps, values before what goes on -/
namespace Ev
open PySem L2
section
variable {α : Type} {env e : Env} {o : OV} {os outs : List OV} {p q : PV} {ps r : List PV} {b : Bool} {i : Nat} {io : List Nat} {sl : List (Option Nat)} {l : List OV}
  {f f1 f2 fk : FE} {fa : FA} {t t1 t2 : FT} {s1 s2 sb : FS} {g : PV → PV → Res OV} {g1 : PV → Res OV} {gn : List PV → Res OV} {ff : FF} {fi : FI} {bind : FG} {n : Nat} {c m : Str} {fs : List (Str × PV)} {ofs : List (Str × OV)}
def kSeq (s2 : FS) (r : Res (Flow × Env)) : Res (Flow × Env) := r.bind fun x => match x.1 with
  | .nx => s2 x.2
  | _ => .ok x
theorem fSeq_e : fSeq s1 s2 env = kSeq s2 (s1 env) := by
  unfold fSeq kSeq
  cases s1 env with
  | ok x => obtain ⟨fl, e⟩ := x; cases fl <;> rfl
  | _ => rfl
theorem kSeq_nx : kSeq s2 (.ok (.nx, e)) = s2 e := rfl
theorem kSeq_rt : kSeq s2 (.ok (.rt o, e)) = .ok (.rt o, e) := rfl
theorem kSeq_bk : kSeq s2 (.ok (.bk, e)) = .ok (.bk, e) := rfl
theorem kSeq_ct : kSeq s2 (.ok (.ct, e)) = .ok (.ct, e) := rfl
theorem kSeq_exc : kSeq s2 (.exc c fs) = .exc c fs := rfl
def kIfS (s1 s2 : FS) (r : Res (Bool × Env)) : Res (Flow × Env) := r.bind fun x => if x.1 = true then s1 x.2 else s2 x.2
theorem fIfS_e : fIfS t s1 s2 env = kIfS s1 s2 (t env) := rfl
theorem kIfS_t : kIfS s1 s2 (.ok (true, e)) = s1 e := rfl
theorem kIfS_f : kIfS s1 s2 (.ok (false, e)) = s2 e := rfl
theorem fNx_e : fNx env = .ok (.nx, env) := rfl
theorem fBk_e : fBk env = .ok (.bk, env) := rfl
theorem fCt_e : fCt env = .ok (.ct, env) := rfl
theorem fRetN_e : fRetN env = .ok (.rt (.val .non), env) := rfl
def kRet (r : Res (OV × Env)) : Res (Flow × Env) := r.bind fun x => .ok (.rt x.1, x.2)
theorem fRet_e : fRet f env = kRet (f env) := rfl
theorem kRet_o : kRet (.ok (o, e)) = .ok (.rt o, e) := rfl
def kExpr (r : Res (OV × Env)) : Res (Flow × Env) := r.bind fun x => .ok (.nx, x.2)
theorem fExpr_e : fExpr f env = kExpr (f env) := rfl
theorem kExpr_o : kExpr (.ok (o, e)) = .ok (.nx, e) := rfl
theorem kExpr_x : kExpr (.exc c fs) = .exc c fs := rfl
def kSet (i : Nat) (r : Res (OV × Env)) : Res (Flow × Env) := r.bind fun x => .ok (.nx, x.2.set i (some x.1))
theorem fSet_e : fSet i f env = kSet i (f env) := rfl
theorem kSet_o : kSet i (.ok (o, e)) = .ok (.nx, e.set i (some o)) := rfl
theorem fC_e : fC p env = .ok (.val p, env) := rfl
def kV (i : Nat) (env : Env) : Option (Option OV) → Res (OV × Env)
  | some (some (.val p)) => .ok (.val p, env)
  | some (some o) => .ok (.val (fz o), env.set i (some (.val (fz o))))
  | _ => .stuck
theorem fV_e : fV i env = kV i env env[i]? := by
  unfold fV kV
  cases env[i]? with
  | none => rfl
  | some z => cases z with
    | none => rfl
    | some z => cases z <;> rfl
theorem kV_val : kV i env (some (some (.val p))) = .ok (.val p, env) := rfl
theorem kV_lst : kV i env (some (some (.lst l))) = .ok (.val (.lst (fzs l)), env.set i (some (.val (.lst (fzs l))))) := rfl
theorem kV_dct {l} : kV i env (some (some (.dct l))) = .ok (.val (.dct (fzKs l)), env.set i (some (.val (.dct (fzKs l))))) := rfl
theorem kV_ins {l} : kV i env (some (some (.ins c l))) = .ok (.val (.ins c (fzFs l)), env.set i (some (.val (.ins c (fzFs l))))) := rfl
def kM (i : Nat) (env : Env) : Option (Option OV) → Res (OV × Env)
  | some (some o) => .ok (o, env.set i none)
  | _ => .stuck
theorem fM_e : fM i env = kM i env env[i]? := by
  unfold fM kM
  cases env[i]? with
  | none => rfl
  | some z => cases z <;> rfl
theorem kM_o : kM i env (some (some o)) = .ok (o, env.set i none) := rfl
def kZ (r : Res (OV × Env)) : Res (OV × Env) := r.bind fun x => .ok (.val (fz x.1), x.2)
theorem fZ_e : fZ f env = kZ (f env) := rfl
theorem kZ_o : kZ (.ok (o, e)) = .ok (.val (fz o), e) := rfl
def kG (e : Env) (r : Res OV) : Res (OV × Env) := r.bind fun o => .ok (o, e)
theorem kG_o : kG e (.ok o) = .ok (o, e) := rfl
theorem ov_e : ov p = .ok (.val p) := rfl
def kO2' (g : PV → PV → Res OV) (p : PV) (r : Res (OV × Env)) : Res (OV × Env) := r.bind fun y => (vl y.1).bind fun q => (g p q).bind fun o => .ok (o, y.2)
def kO2 (g : PV → PV → Res OV) (f2 : FE) (r : Res (OV × Env)) : Res (OV × Env) := r.bind fun x => (vl x.1).bind fun p => kO2' g p (f2 x.2)
theorem fO2_e : fO2 g f1 f2 env = kO2 g f2 (f1 env) := rfl
theorem kO2_o : kO2 g f2 (.ok (.val p, e)) = kO2' g p (f2 e) := rfl
theorem kO2'_o : kO2' g p (.ok (.val q, e)) = kG e (g p q) := rfl
def kO1 (g : PV → Res OV) (r : Res (OV × Env)) : Res (OV × Env) := r.bind fun x => (vl x.1).bind fun p => (g p).bind fun o => .ok (o, x.2)
theorem fO1_e : fO1 g1 f env = kO1 g1 (f env) := rfl
theorem kO1_o : kO1 g1 (.ok (.val p, e)) = kG e (g1 p) := rfl
theorem fIsi_e {T : String} : fIsi T f env = kO1 (isT T) (f env) := rfl
def kB (r : Res (OV × Env)) : Res (Bool × Env) := r.bind fun x => (bl x.1).bind fun b => .ok (b, x.2)
theorem fB_e : fB f env = kB (f env) := rfl
theorem kB_o : kB (.ok (.val (.bl b), e)) = .ok (b, e) := rfl
def kNot (r : Res (Bool × Env)) : Res (Bool × Env) := r.bind fun x => .ok (!x.1, x.2)
theorem fNot_e : fNot t env = kNot (t env) := rfl
theorem kNot_o : kNot (.ok (b, e)) = .ok (!b, e) := rfl
def kAnd (f2 : FT) (r : Res (Bool × Env)) : Res (Bool × Env) := r.bind fun x => if x.1 = true then f2 x.2 else .ok (false, x.2)
theorem fAnd_e : fAnd t1 t2 env = kAnd t2 (t1 env) := rfl
theorem kAnd_t : kAnd t2 (.ok (true, e)) = t2 e := rfl
theorem kAnd_f : kAnd t2 (.ok (false, e)) = .ok (false, e) := rfl
def kOr (f2 : FT) (r : Res (Bool × Env)) : Res (Bool × Env) := r.bind fun x => if x.1 = true then .ok (true, x.2) else f2 x.2
theorem fOr_e : fOr t1 t2 env = kOr t2 (t1 env) := rfl
theorem kOr_t : kOr t2 (.ok (true, e)) = .ok (true, e) := rfl
theorem kOr_f : kOr t2 (.ok (false, e)) = t2 e := rfl
def kAndV (f2 : FE) (r : Res (OV × Env)) : Res (OV × Env) := r.bind fun x => (bl x.1).bind fun b => if b = true then f2 x.2 else .ok (.val (.bl false), x.2)
theorem fAndV_e : fAndV f1 f2 env = kAndV f2 (f1 env) := rfl
theorem kAndV_t : kAndV f2 (.ok (.val (.bl true), e)) = f2 e := rfl
theorem kAndV_f : kAndV f2 (.ok (.val (.bl false), e)) = .ok (.val (.bl false), e) := rfl
def kOrV (f2 : FE) (r : Res (OV × Env)) : Res (OV × Env) := r.bind fun x => (bl x.1).bind fun b => if b = true then .ok (.val (.bl true), x.2) else f2 x.2
theorem fOrV_e : fOrV f1 f2 env = kOrV f2 (f1 env) := rfl
theorem kOrV_t : kOrV f2 (.ok (.val (.bl true), e)) = .ok (.val (.bl true), e) := rfl
theorem kOrV_f : kOrV f2 (.ok (.val (.bl false), e)) = f2 e := rfl
def kNotV (r : Res (OV × Env)) : Res (OV × Env) := r.bind fun x => (bl x.1).bind fun b => .ok (.val (.bl (!b)), x.2)
theorem fNotV_e : fNotV f env = kNotV (f env) := rfl
theorem kNotV_o : kNotV (.ok (.val (.bl b), e)) = .ok (.val (.bl (!b)), e) := rfl
def kIf (f1 f2 : FE) (r : Res (Bool × Env)) : Res (OV × Env) := r.bind fun x => if x.1 = true then f1 x.2 else f2 x.2
theorem fIf_e : fIf t f1 f2 env = kIf f1 f2 (t env) := rfl
theorem kIf_t : kIf f1 f2 (.ok (true, e)) = f1 e := rfl
theorem kIf_f : kIf f1 f2 (.ok (false, e)) = f2 e := rfl
theorem fA0_e : fA0 env = .ok ([], env) := rfl
def kA1' (o : OV) (r : Res (List OV × Env)) : Res (List OV × Env) := r.bind fun y => .ok (o :: y.1, y.2)
def kA1 (fa : FA) (r : Res (OV × Env)) : Res (List OV × Env) := r.bind fun x => kA1' x.1 (fa x.2)
theorem fA1_e : fA1 f fa env = kA1 fa (f env) := rfl
theorem kA1_o : kA1 fa (.ok (o, e)) = kA1' o (fa e) := rfl
theorem kA1'_o : kA1' o (.ok (os, e)) = .ok (o :: os, e) := rfl
def kVls (p : PV) (r : Res (List PV)) : Res (List PV) := r.bind fun ps => .ok (p :: ps)
theorem vls_nil : vls [] = .ok [] := rfl
theorem vls_cons : vls (.val p :: os) = kVls p (vls os) := rfl
theorem kVls_o : kVls p (.ok ps) = .ok (p :: ps) := rfl
def kTup' (e : Env) (r : Res (List PV)) : Res (OV × Env) := r.bind fun ps => .ok (.val (.tup ps), e)
def kTup (r : Res (List OV × Env)) : Res (OV × Env) := r.bind fun x => kTup' x.2 (vls x.1)
theorem fTup_e : fTup fa env = kTup (fa env) := rfl
theorem kTup_o : kTup (.ok (os, e)) = kTup' e (vls os) := rfl
theorem kTup'_o : kTup' e (.ok ps) = .ok (.val (.tup ps), e) := rfl
def kLst (r : Res (List OV × Env)) : Res (OV × Env) := r.bind fun x => .ok (.lst x.1, x.2)
theorem fLst_e : fLst fa env = kLst (fa env) := rfl
theorem kLst_o : kLst (.ok (os, e)) = .ok (.lst os, e) := rfl
def kCB' (g : List PV → Res OV) (e : Env) (r : Res (List PV)) : Res (OV × Env) := r.bind fun ps => (g ps).bind fun o => .ok (o, e)
def kCB (g : List PV → Res OV) (r : Res (List OV × Env)) : Res (OV × Env) := r.bind fun x => kCB' g x.2 (vls x.1)
theorem fCB_e : fCB gn fa env = kCB gn (fa env) := rfl
theorem kCB_o : kCB gn (.ok (os, e)) = kCB' gn e (vls os) := rfl
theorem kCB'_o : kCB' gn e (.ok ps) = kG e (gn ps) := rfl
theorem frE_nil : frE [] = [] := rfl
theorem frE_c {s : Option OV} : frE (s :: env) = (s.map fun o => .val (fz o)) :: frE env := rfl
def kPk (env : Env) (r : Res (OV × Env)) : Res (OV × Env) := r.bind fun x => match x.1 with
  | .val p => if isScal p = true then .ok (.val p, env) else .stuck
  | _ => .stuck
theorem fPk_e : fPk f env = kPk env (f (frE env)) := rfl
theorem kPk_int {z : Int} : kPk env (.ok (.val (.int z), e)) = .ok (.val (.int z), env) := rfl
theorem kPk_bl : kPk env (.ok (.val (.bl b), e)) = .ok (.val (.bl b), env) := rfl
theorem kPk_str {z : Str} : kPk env (.ok (.val (.str z), e)) = .ok (.val (.str z), env) := rfl
theorem kPk_non : kPk env (.ok (.val .non, e)) = .ok (.val .non, env) := rfl
theorem fz_val : fz (.val p) = p := rfl
theorem fz_lst : fz (.lst l) = .lst (fzs l) := rfl
theorem fz_dct {l} : fz (.dct l) = .dct (fzKs l) := rfl
theorem fz_ins {l} : fz (.ins c l) = .ins c (fzFs l) := rfl
theorem fzs_nil : fzs [] = [] := rfl
theorem fzs_cons : fzs (o :: l) = fz o :: fzs l := rfl
theorem fzs_map : ∀ l : List OV, fzs l = l.map fz
  | [] => rfl
  | p :: l => by
    show fz p :: fzs l = _
    rw [fzs_map l]
    rfl
theorem fzs_vals : ∀ l : List PV, fzs (l.map OV.val) = l
  | [] => rfl
  | p :: l => by
    show p :: fzs (l.map OV.val) = p :: l
    rw [fzs_vals l]
theorem fzs_app (a b : List OV) : fzs (a ++ b) = fzs a ++ fzs b := by rw [fzs_map, fzs_map, fzs_map, List.map_append]
theorem fzKs_map : ∀ l : List (PV × OV), fzKs l = l.map fun kv => (kv.1, fz kv.2)
  | [] => rfl
  | (k, p) :: l => by
    show (k, fz p) :: fzKs l = _
    rw [fzKs_map l]
    rfl
/-! calls -/
def kPut (o : OV) : Option Env → Res (OV × Env)
  | some e => .ok (o, e)
  | none => .stuck
def kCall' (io : List Nat) (sl : List (Option Nat)) (e : Env) (r : Res (OV × List OV)) : Res (OV × Env) := r.bind fun y => kPut y.1 (putB sl io y.2 e)
def kCall (ff : FF) (io : List Nat) (sl : List (Option Nat)) (r : Res (List OV × Env)) : Res (OV × Env) := r.bind fun x => kCall' io sl x.2 (ff x.1)
theorem fCall_e : fCall ff io sl fa env = kCall ff io sl (fa env) := by
  unfold fCall kCall
  cases fa env with
  | ok x =>
    show (ff x.1).bind _ = (ff x.1).bind _
    cases ff x.1 with
    | ok y =>
      show (ofO (putB sl io y.2 x.2)).bind _ = kPut y.1 (putB sl io y.2 x.2)
      cases putB sl io y.2 x.2 <;> rfl
    | _ => rfl
  | _ => rfl
theorem kCall_o : kCall ff io sl (.ok (os, e)) = kCall' io sl e (ff os) := rfl
theorem kCall'_o : kCall' io sl e (.ok (o, outs)) = kPut o (putB sl io outs e) := rfl
theorem kCall'_x : kCall' io sl e (.exc c fs) = .exc c fs := rfl
theorem kPut_o : kPut o (some e) = .ok (o, e) := rfl
def kB2 (sl : List (Option Nat)) (io : List Nat) (i : Nat) (o : OV) (outs : List OV) (env : Env) : Option (Option OV) → Option Env
  | some none => putB sl io outs (env.set i (some o))
  | _ => none
def kB1 (sl : List (Option Nat)) (io : List Nat) (o : OV) (outs : List OV) (env : Env) : Option (Option Nat) → Option Env
  | some (some i) => kB2 sl io i o outs env env[i]?
  | some none => putB sl io outs env
  | none => none
theorem putB_nil : putB sl [] [] e = some e := by
  unfold putB
  rfl
theorem putB_cons : putB sl (n :: io) (o :: outs) env = kB1 sl io o outs env sl[n]? := by
  rw [putB]
  cases sl[n]? with
  | none => rfl
  | some z => cases z with
    | none => rfl
    | some i =>
      show (match env[i]? with
        | some none => putB sl io outs (env.set i (some o))
        | _ => none) = kB2 sl io i o outs env env[i]?
      cases env[i]? with
      | none => rfl
      | some z => cases z <;> rfl
theorem kB1_s : kB1 sl io o outs env (some (some i)) = kB2 sl io i o outs env env[i]? := rfl
theorem kB1_n : kB1 sl io o outs env (some none) = putB sl io outs env := rfl
theorem kB2_n : kB2 sl io i o outs env (some none) = putB sl io outs (env.set i (some o)) := rfl
def kCons (o : OV) (r : Option (List OV)) : Option (List OV) := r.map (o :: ·)
def kOuts (i : Nat) (io : List Nat) (env : Env) : Option (Option OV) → Option (List OV)
  | some (some o) => kCons o (outsOf (env.set i none) io)
  | _ => none
theorem outs_nil : outsOf env [] = some [] := rfl
theorem outs_cons : outsOf env (i :: io) = kOuts i io env env[i]? := by
  rw [outsOf]
  cases env[i]? with
  | none => rfl
  | some z => cases z <;> rfl
theorem kOuts_o : kOuts i io env (some (some o)) = kCons o (outsOf (env.set i none) io) := rfl
theorem kCons_o : kCons o (some os) = some (o :: os) := rfl
def kOut (o : OV) : Option (List OV) → Res (OV × List OV)
  | some os => .ok (o, os)
  | none => .stuck
theorem kOut_o : kOut o (some os) = .ok (o, os) := rfl
def kFn (io : List Nat) (r : Res (Flow × Env)) : Res (OV × List OV) := r.bind fun x => match x.1 with
  | .nx => kOut (.val .non) (outsOf x.2 io)
  | .rt o => kOut o (outsOf x.2 io)
  | _ => .stuck
theorem fn_e {args : List OV} : fn n io sb args = kFn io (sb (args.map some ++ List.replicate (n - args.length) none)) := by
  unfold fn kFn
  cases sb _ with
  | ok x =>
    obtain ⟨fl, e⟩ := x
    cases fl with
    | nx => show (ofO (outsOf e io)).bind _ = kOut _ (outsOf e io); cases outsOf e io <;> rfl
    | rt o => show (ofO (outsOf e io)).bind _ = kOut _ (outsOf e io); cases outsOf e io <;> rfl
    | _ => rfl
  | _ => rfl
theorem kFn_nx : kFn io (.ok (.nx, e)) = kOut (.val .non) (outsOf e io) := rfl
theorem kFn_rt : kFn io (.ok (.rt o, e)) = kOut o (outsOf e io) := rfl
theorem kFn_x : kFn io (.exc c fs) = .exc c fs := rfl
/-! loops -/
def kFor (bind : FG) (sb : FS) (r : Res (List PV × Env)) : Res (Flow × Env) := r.bind fun x => fLoop bind sb x.1 x.2
theorem fFor_e : fFor fi bind sb env = kFor bind sb (fi env) := rfl
theorem kFor_o : kFor bind sb (.ok (ps, e)) = fLoop bind sb ps e := rfl
theorem kFor_x : kFor bind sb (.exc c fs) = .exc c fs := rfl
theorem loop_nil : fLoop bind sb [] env = .ok (.nx, env) := rfl
def kLoop' (bind : FG) (sb : FS) (r : List PV) (x : Res (Flow × Env)) : Res (Flow × Env) := x.bind fun x => match x.1 with
    | .nx => fLoop bind sb r x.2
    | .ct => fLoop bind sb r x.2
    | .bk => .ok (.nx, x.2)
    | .rt o => .ok (.rt o, x.2)
def kLoop (bind : FG) (sb : FS) (r : List PV) : Option Env → Res (Flow × Env)
  | some e => kLoop' bind sb r (sb e)
  | none => .stuck
theorem loop_cons : fLoop bind sb (p :: r) env = kLoop bind sb r (bind (.val p) env) := by
  rw [fLoop]
  cases bind (.val p) env with
  | none => rfl
  | some e =>
    show (sb e).bind _ = kLoop' bind sb r (sb e)
    unfold kLoop'
    cases sb e with
    | ok x => obtain ⟨fl, e⟩ := x; cases fl <;> rfl
    | _ => rfl
theorem kLoop_o : kLoop bind sb r (some e) = kLoop' bind sb r (sb e) := rfl
theorem kLoop_nx : kLoop' bind sb r (.ok (.nx, e)) = fLoop bind sb r e := rfl
theorem kLoop_ct : kLoop' bind sb r (.ok (.ct, e)) = fLoop bind sb r e := rfl
theorem kLoop_bk : kLoop' bind sb r (.ok (.bk, e)) = .ok (.nx, e) := rfl
theorem kLoop_rt : kLoop' bind sb r (.ok (.rt o, e)) = .ok (.rt o, e) := rfl
def kIt (r : Res (OV × Env)) : Res (List PV × Env) := r.bind fun x => (its x.1).bind fun ps => .ok (ps, x.2)
theorem fIt_e : fIt f env = kIt (f env) := rfl
theorem kIt_l : kIt (.ok (.val (.lst ps), e)) = .ok (ps, e) := rfl
theorem kIt_t : kIt (.ok (.val (.tup ps), e)) = .ok (ps, e) := rfl
def kR1 (r : Res (List OV × Env)) : Res (List PV × Env) := r.bind fun x => match x.1 with
  | [.val (.int b)] => if small b = true then .ok (rng 0 b, x.2) else .stuck
  | _ => .stuck
theorem fR1_e : fR1 fa env = kR1 (fa env) := rfl
theorem kR1_o {z : Int} : kR1 (.ok ([.val (.int z)], e)) = if small z = true then .ok (rng 0 z, e) else .stuck := rfl
def kR2 (r : Res (List OV × Env)) : Res (List PV × Env) := r.bind fun x => match x.1 with
  | [.val (.int a), .val (.int b)] => if small a = true ∧ small b = true then .ok (rng a b, x.2) else .stuck
  | _ => .stuck
theorem fR2_e : fR2 fa env = kR2 (fa env) := rfl
theorem kR2_o {y z : Int} : kR2 (.ok ([.val (.int y), .val (.int z)], e)) = if small y = true ∧ small z = true then .ok (rng y z, e) else .stuck := rfl
def kR3 (r : Res (List OV × Env)) : Res (List PV × Env) := r.bind fun x => match x.1 with
  | [.val (.int a), .val (.int b), .val (.int c)] => if c = -1 ∧ small a = true ∧ small b = true then .ok (rngD a b, x.2) else .stuck
  | _ => .stuck
theorem fR3_e : fR3 fa env = kR3 (fa env) := rfl
theorem kR3_o {y z w : Int} : kR3 (.ok ([.val (.int y), .val (.int z), .val (.int w)], e)) = if w = -1 ∧ small y = true ∧ small z = true then .ok (rngD y z, e) else .stuck := rfl
theorem fGn_e : fGn i o env = some (env.set i (some o)) := rfl
def kGs (gs : List PV → Env → Option Env) (r : List PV) : Option Env → Option Env
  | some e => gs r e
  | none => none
theorem fGt_e {gs} : fGt n gs (.val (.tup ps)) env = if ps.length = n then gs ps env else none := rfl
theorem fGs1_e {gs} : fGs1 bind gs (p :: r) env = kGs gs r (bind (.val p) env) := by
  show (bind (.val p) env).bind _ = _
  cases bind (.val p) env <;> rfl
theorem kGs_o {gs} : kGs gs r (some e) = gs r e := rfl
theorem fGs0_e : fGs0 [] env = some env := rfl
def kAsg' : Option Env → Res (Flow × Env)
  | some e => .ok (.nx, e)
  | none => .stuck
def kAsg (bind : FG) (r : Res (OV × Env)) : Res (Flow × Env) := r.bind fun x => kAsg' (bind x.1 x.2)
theorem fAsg_e : fAsg bind f env = kAsg bind (f env) := by
  unfold fAsg kAsg
  cases f env with
  | ok x => show (ofO (bind x.1 x.2)).bind _ = kAsg' (bind x.1 x.2); cases bind x.1 x.2 <;> rfl
  | _ => rfl
theorem kAsg_o : kAsg bind (.ok (o, e)) = kAsg' (bind o e) := rfl
theorem kAsg'_o : kAsg' (some e) = .ok (.nx, e) := rfl
/-! lists -/
def kL : Option (Option OV) → Bool
  | some (some (.lst _)) => true
  | _ => false
theorem isL_e : isL env i = kL env[i]? := by
  unfold isL kL
  cases env[i]? with
  | none => rfl
  | some z => cases z with
    | none => rfl
    | some z => cases z <;> rfl
theorem kL_l : kL (some (some (.lst l))) = true := rfl
def kApp' (i : Nat) (o : OV) (e : Env) : Option (Option OV) → Res (OV × Env)
  | some (some (.lst l)) => if l.length ≤ 10000000 then .ok (.val .non, e.set i (some (.lst (l ++ [o])))) else .stuck
  | _ => .stuck
def kApp (i : Nat) (r : Res (OV × Env)) : Res (OV × Env) := r.bind fun x => kApp' i x.1 x.2 x.2[i]?
theorem fApp_e : fApp i f env = if isL env i = true then kApp i (f env) else .stuck := by
  unfold fApp kApp kApp'
  rfl
theorem kApp_o : kApp i (.ok (o, e)) = kApp' i o e e[i]? := rfl
theorem kApp'_o : kApp' i o e (some (some (.lst l))) = if l.length ≤ 10000000 then .ok (.val .non, e.set i (some (.lst (l ++ [o])))) else .stuck := rfl
def kExt' (i : Nat) (o : OV) (e : Env) : Option (Option OV) → Res (OV × Env) := fun z => match o, z with
  | .val (.lst qs), some (some (.lst l)) => if l.length + qs.length ≤ 10000000 then .ok (.val .non, e.set i (some (.lst (l ++ qs.map .val)))) else .stuck
  | _, _ => .stuck
def kExt (i : Nat) (r : Res (OV × Env)) : Res (OV × Env) := r.bind fun x => kExt' i x.1 x.2 x.2[i]?
theorem fExt_e : fExt i f env = if isL env i = true then kExt i (f env) else .stuck := rfl
theorem kExt_o : kExt i (.ok (o, e)) = kExt' i o e e[i]? := rfl
theorem kExt'_o : kExt' i (.val (.lst ps)) e (some (some (.lst l))) = if l.length + ps.length ≤ 10000000 then .ok (.val .non, e.set i (some (.lst (l ++ ps.map .val)))) else .stuck := rfl
def kPop' (i : Nat) (env : Env) (l : List OV) : Option OV → Res (OV × Env)
  | some o => .ok (o, env.set i (some (.lst l.dropLast)))
  | none => .stuck
def kPop (i : Nat) (env : Env) : Option (Option OV) → Res (OV × Env)
  | some (some (.lst l)) => kPop' i env l l.getLast?
  | _ => .stuck
theorem fPop_e : fPop i env = kPop i env env[i]? := by
  unfold fPop kPop
  cases env[i]? with
  | none => rfl
  | some z => cases z with
    | none => rfl
    | some z => cases z with
      | lst l => show (match l.getLast? with | _ => _) = kPop' i env l l.getLast?; cases l.getLast? <;> rfl
      | _ => rfl
theorem kPop_l : kPop i env (some (some (.lst l))) = kPop' i env l l.getLast? := rfl
theorem kPop'_o : kPop' i env l (some o) = .ok (o, env.set i (some (.lst l.dropLast))) := rfl
def kRev (i : Nat) (env : Env) : Option (Option OV) → Res (OV × Env)
  | some (some (.lst l)) => .ok (.val .non, env.set i (some (.lst l.reverse)))
  | _ => .stuck
theorem fRev_e : fRev i env = kRev i env env[i]? := by
  unfold fRev kRev
  cases env[i]? with
  | none => rfl
  | some z => cases z with
    | none => rfl
    | some z => cases z <;> rfl
theorem kRev_l : kRev i env (some (some (.lst l))) = .ok (.val .non, env.set i (some (.lst l.reverse))) := rfl
theorem fP0_e : fP0 env = .ok (none, env) := rfl
def kP1 (r : Res (OV × Env)) : Res (Option Int × Env) := r.bind fun x => match x.1 with
  | .val (.int i) => .ok (some i, x.2)
  | _ => .stuck
theorem fP1_e : fP1 f env = kP1 (f env) := rfl
theorem kP1_i {z : Int} : kP1 (.ok (.val (.int z), e)) = .ok (some z, e) := rfl
def kSl2 (p : PV) (a : Option Int) (r : Res (Option Int × Env)) : Res (OV × Env) := r.bind fun z => (gSl p a z.1).bind fun o => .ok (o, z.2)
def kSl1 (p : PV) (hi : FP) (r : Res (Option Int × Env)) : Res (OV × Env) := r.bind fun y => kSl2 p y.1 (hi y.2)
def kSl (lo hi : FP) (r : Res (OV × Env)) : Res (OV × Env) := r.bind fun x => (vl x.1).bind fun p => kSl1 p hi (lo x.2)
theorem fSl_e {lo hi : FP} : fSl f lo hi env = kSl lo hi (f env) := rfl
theorem kSl_o {lo hi : FP} : kSl lo hi (.ok (.val p, e)) = kSl1 p hi (lo e) := rfl
theorem kSl1_o {hi : FP} {a : Option Int} : kSl1 p hi (.ok (a, e)) = kSl2 p a (hi e) := rfl
theorem kSl2_o {a b : Option Int} : kSl2 p a (.ok (b, e)) = kG e (gSl p a b) := rfl
def kSL2 (i : Nat) (o : OV) (e : Env) (k : OV) (z : Option (Option OV)) : Res (Flow × Env) := match k, z with
    | .val (.int k), some (some (.lst l)) => (match ixN l.length k with
      | some j => .ok (.nx, e.set i (some (.lst (l.set j o))))
      | none => .stuck)
    | _, _ => .stuck
def kSL1 (i : Nat) (o : OV) (r : Res (OV × Env)) : Res (Flow × Env) := r.bind fun y => kSL2 i o y.2 y.1 y.2[i]?
def kSL (i : Nat) (fk : FE) (r : Res (OV × Env)) : Res (Flow × Env) := r.bind fun x => if isL x.2 i = true then kSL1 i x.1 (fk x.2) else .stuck
theorem fSetL_e : fSetL i fk f env = kSL i fk (f env) := rfl
theorem kSL_o : kSL i fk (.ok (o, e)) = if isL e i = true then kSL1 i o (fk e) else .stuck := rfl
theorem kSL1_o {k : OV} : kSL1 i o (.ok (k, e)) = kSL2 i o e k e[i]? := rfl
theorem kSL2_o {k : Int} {j : Nat} (h : ixN l.length k = some j) : kSL2 i o e (.val (.int k)) (some (some (.lst l))) = .ok (.nx, e.set i (some (.lst (l.set j o)))) := by
  unfold kSL2
  simp only [h]
/-! comprehensions -/
def kLc' (vs : List Nat) (r : Res (List OV × Env)) : Res (OV × Env) := r.bind fun y => .ok (.lst y.1, wipeE y.2 vs)
def kLc (vs : List Nat) (bind : FG) (t : FT) (f : FE) (r : Res (List PV × Env)) : Res (OV × Env) := r.bind fun x => if x.1.length ≤ 10000000 then kLc' vs (fLcL vs bind t f x.1 [] (wipeE x.2 vs)) else .stuck
theorem fLc_e {vs : List Nat} : fLc vs fi bind t f env = kLc vs bind t f (fi env) := rfl
theorem kLc_o {vs : List Nat} : kLc vs bind t f (.ok (ps, e)) = if ps.length ≤ 10000000 then kLc' vs (fLcL vs bind t f ps [] (wipeE e vs)) else .stuck := rfl
theorem kLc'_o {vs : List Nat} : kLc' vs (.ok (os, e)) = .ok (.lst os, wipeE e vs) := rfl
theorem wipe_nil : wipeE env [] = env := rfl
theorem wipe_cons {vs : List Nat} : wipeE env (i :: vs) = (wipeE env vs).set i none := rfl
def kLc3 (vs : List Nat) (bind : FG) (t : FT) (f : FE) (r : List PV) (acc : List OV) (x : Res (OV × Env)) : Res (List OV × Env) := x.bind fun y => fLcL vs bind t f r (acc ++ [y.1]) (wipeE y.2 vs)
def kLc2 (vs : List Nat) (bind : FG) (t : FT) (f : FE) (r : List PV) (acc : List OV) (x : Res (Bool × Env)) : Res (List OV × Env) := x.bind fun x => if x.1 = true then kLc3 vs bind t f r acc (noX (f x.2)) else fLcL vs bind t f r acc (wipeE x.2 vs)
def kLc1 (vs : List Nat) (bind : FG) (t : FT) (f : FE) (r : List PV) (acc : List OV) : Option Env → Res (List OV × Env)
  | some e => kLc2 vs bind t f r acc (noX (t e))
  | none => .stuck
theorem lcl_nil {vs : List Nat} {acc : List OV} : fLcL vs bind t f [] acc env = .ok (acc, env) := by rw [fLcL]
theorem lcl_cons {vs : List Nat} {acc : List OV} : fLcL vs bind t f (p :: r) acc env = kLc1 vs bind t f r acc (bind (.val p) env) := by
  rw [fLcL]
  cases bind (.val p) env <;> rfl
theorem kLc1_o {vs : List Nat} {acc : List OV} : kLc1 vs bind t f r acc (some e) = kLc2 vs bind t f r acc (noX (t e)) := rfl
theorem kLc2_t {vs : List Nat} {acc : List OV} : kLc2 vs bind t f r acc (.ok (true, e)) = kLc3 vs bind t f r acc (noX (f e)) := rfl
theorem kLc2_f {vs : List Nat} {acc : List OV} : kLc2 vs bind t f r acc (.ok (false, e)) = fLcL vs bind t f r acc (wipeE e vs) := rfl
theorem kLc3_o {vs : List Nat} {acc : List OV} : kLc3 vs bind t f r acc (.ok (o, e)) = fLcL vs bind t f r (acc ++ [o]) (wipeE e vs) := rfl
theorem fYes_e : fYes env = .ok (true, env) := rfl
/-- a comprehension whose state does not change -/
theorem lcL_eq {vs : List Nat} {cnd : PV → Bool} {el : PV → OV} : ∀ {ps : List PV} {acc : List OV}, (∀ p ∈ ps, ∃ env1 env2, bind (.val p) env = some env1 ∧ t env1 = .ok (cnd p, env2) ∧ (cnd p = false → wipeE env2 vs = env) ∧ (cnd p = true → ∃ env3, f env2 = .ok (el p, env3) ∧ wipeE env3 vs = env)) →
    fLcL vs bind t f ps acc env = .ok (acc ++ (ps.filter cnd).map el, env)
  | [], acc, h => by simp [fLcL]
  | p :: ps, acc, h => by
    obtain ⟨env1, env2, h1, h2, h3, h4⟩ := h p List.mem_cons_self
    have ih := fun acc => lcL_eq (ps := ps) (acc := acc) fun q hq => h q (List.mem_cons_of_mem _ hq)
    rw [fLcL, h1]
    show (noX (t env1)).bind _ = _
    rw [h2]
    cases hc : cnd p with
    | false =>
      show fLcL vs bind t f ps acc (wipeE env2 vs) = _
      rw [h3 hc, ih, List.filter_cons, hc]
      rfl
    | true =>
      obtain ⟨env3, h5, h6⟩ := h4 hc
      show (noX (f env2)).bind _ = _
      rw [h5]
      show fLcL vs bind t f ps (acc ++ [el p]) (wipeE env3 vs) = _
      rw [h6, ih, List.filter_cons, hc]
      simp
/-! dicts -/
theorem fD0_e : fD0 env = .ok (.dct [], env) := rfl
def kDp2 (i : Nat) (q p : PV) (e : Env) : Option Key → Option (Option OV) → Res (Flow × Env)
    | some _, some (some (.dct l)) => if l.length < 10000000 then .ok (.nx, e.set i (some (.dct (putO l p q)))) else .stuck
    | _, _ => .stuck
def kDp1 (i : Nat) (q : PV) (r : Res (OV × Env)) : Res (Flow × Env) := r.bind fun y => (vl y.1).bind fun p => kDp2 i q p y.2 (kO p) y.2[i]?
def kDp (i : Nat) (fk : FE) (r : Res (OV × Env)) : Res (Flow × Env) := r.bind fun x => if isD x.2 i = true then (vl x.1).bind fun q => kDp1 i q (fk x.2) else .stuck
theorem fDput_e : fDput i fk f env = kDp i fk (f env) := by
  unfold fDput kDp kDp1 kDp2
  rfl
theorem kDp_o : kDp i fk (.ok (.val q, e)) = if isD e i = true then kDp1 i q (fk e) else .stuck := rfl
theorem kDp1_o : kDp1 i q (.ok (.val p, e)) = kDp2 i q p e (kO p) e[i]? := rfl
theorem kO_int {z : Int} : kO (.int z) = some (.inl z) := rfl
theorem kDp2_o {k : Key} {l} : kDp2 i q p e (some k) (some (some (.dct l))) = if l.length < 10000000 then .ok (.nx, e.set i (some (.dct (putO l p q)))) else .stuck := rfl
def kD : Option (Option OV) → Bool
  | some (some (.dct _)) => true
  | _ => false
theorem isD_e : isD env i = kD env[i]? := by
  unfold isD kD
  cases env[i]? with
  | none => rfl
  | some z => cases z with
    | none => rfl
    | some z => cases z <;> rfl
theorem kD_d {l} : kD (some (some (.dct l))) = true := rfl
def kFD (i : Nat) (bind : FG) (sb : FS) (env : Env) : Option (Option OV) → Res (Flow × Env)
  | some (some o) => (match fz o with
    | .dct l => fLoop bind (fun e => noX (sb e)) (l.map (·.1)) (env.set i (some (.val (fz o))))
    | _ => .stuck)
  | _ => .stuck
theorem fForD_e : fForD i bind sb env = kFD i bind sb env env[i]? := by
  unfold fForD kFD
  cases env[i]? with
  | none => rfl
  | some z => cases z <;> rfl
def noXF (sb : FS) : FS := fun e => noX (sb e)
theorem noXF_e : noXF sb env = noX (sb env) := rfl
theorem kFD_d {l} : kFD i bind sb env (some (some (.val (.dct l)))) = fLoop bind (noXF sb) (l.map (·.1)) (env.set i (some (.val (.dct l)))) := rfl
theorem noX_o {x : α} : noX (.ok x) = .ok x := rfl
/-! instances -/
def kSf (c f : Str) (env : Env) : Option (Option OV) → Res (OV × Env)
  | some (some (.ins c' fs)) => if c' = c then (match getF fs f with
    | some (.val p) => .ok (.val p, env)
    | _ => .stuck) else .stuck
  | some (some (.val (.ins c' fs))) => if c' = c then (match getF fs f with
    | some p => .ok (.val p, env)
    | _ => .stuck) else .stuck
  | _ => .stuck
theorem fSf_e {f : Str} : fSf c f i env = kSf c f env env[i]? := by
  unfold fSf kSf
  rcases env[i]? with _ | _ | z
  · rfl
  · rfl
  · cases z with
    | val p => cases p <;> rfl
    | _ => rfl
theorem kSf_1 {f : Str} : kSf c f env (some (some (.ins c [(f, .val p)]))) = .ok (.val p, env) := by
  unfold kSf
  simp [getF]
theorem fSfAug_1 {f : Str} {g : PV → PV → Res OV} {p q q' : PV} (h0 : env[i]? = some (some (.ins c [(f, .val p)]))) (h1 : f1 env = .ok (.val q, e)) (h2 : g p q = .ok (.val q')) (h3 : e[i]? = some (some (.ins c [(f, .val p)]))) :
    fSfAug c f i g f1 env = .ok (.nx, e.set i (some (.ins c [(f, .val q')]))) := by
  unfold fSfAug
  rw [h0]
  simp [getF, h1, Res.bind, vl, h2, h3, putFO]
theorem fSfSet_0 {f : Str} (h1 : f1 env = .ok (o, e)) (h3 : e[i]? = some (some (.ins c []))) : fSfSet c f i f1 env = .ok (.nx, e.set i (some (.ins c [(f, o)]))) := by
  unfold fSfSet
  simp [h1, Res.bind, h3, putFO]
def kI (c m : Str) : Option (Option OV) → Bool
  | some (some (.ins c' fs)) => decide (c' = c) && (getF fs m).isNone
  | some (some (.val (.ins c' fs))) => decide (c' = c) && (getF fs m).isNone
  | _ => false
theorem isI_e : isI c m env i = kI c m env[i]? := by
  unfold isI kI
  rcases env[i]? with _ | _ | z
  · rfl
  · rfl
  · cases z with
    | val p => cases p <;> rfl
    | _ => rfl
theorem kI_1 {f : Str} (h : f ≠ m) : kI c m (some (some (.ins c [(f, o)]))) = true := by
  unfold kI
  simp [getF, h]
theorem kI_0 : kI c m (some (some (.ins c []))) = true := by
  unfold kI
  simp [getF]
def kMe2 (io : List Nat) (sl : List (Option Nat)) (e : Env) (r : Res (OV × List OV)) : Res (OV × Env) := r.bind fun y => kPut y.1 (putB sl io y.2 e)
def kMe1 (ff : FF) (io : List Nat) (i : Nat) (sl : List (Option Nat)) (os : List OV) (e : Env) : Option (Option OV) → Res (OV × Env)
  | some (some o) => kMe2 io (some i :: sl) (e.set i none) (ff (o :: os))
  | _ => .stuck
def kMe (ff : FF) (io : List Nat) (i : Nat) (sl : List (Option Nat)) (r : Res (List OV × Env)) : Res (OV × Env) := r.bind fun x => kMe1 ff io i sl x.1 x.2 x.2[i]?
theorem fMeth_e : fMeth c m ff io i sl fa env = if isI c m env i = true then kMe ff io i sl (fa env) else .stuck := by
  unfold fMeth kMe
  cases fa env with
  | ok x =>
    show (if _ then (match x.2[i]? with
      | some (some o) => (ff (o :: x.1)).bind fun y => (ofO (putB (some i :: sl) io y.2 (x.2.set i none))).bind fun env2 => .ok (y.1, env2)
      | _ => .stuck) else _) = if _ then kMe1 ff io i sl x.1 x.2 x.2[i]? else _
    rcases x.2[i]? with _ | _ | o
    · rfl
    · rfl
    · show (if _ then (ff (o :: x.1)).bind _ else _) = if _ then (ff (o :: x.1)).bind _ else _
      congr 1
      cases ff (o :: x.1) with
      | ok y =>
        show (ofO (putB (some i :: sl) io y.2 (x.2.set i none))).bind _ = kPut y.1 (putB (some i :: sl) io y.2 (x.2.set i none))
        cases putB (some i :: sl) io y.2 (x.2.set i none) <;> rfl
      | _ => rfl
  | _ => rfl
theorem kMe_o : kMe ff io i sl (.ok (os, e)) = kMe1 ff io i sl os e e[i]? := rfl
theorem kMe1_o : kMe1 ff io i sl os e (some (some o)) = kMe2 io (some i :: sl) (e.set i none) (ff (o :: os)) := rfl
theorem kMe2_o : kMe2 io sl e (.ok (o, outs)) = kPut o (putB sl io outs e) := rfl
theorem fMethE_1 {e2 : Env} {ret : OV} (h1 : f env = .ok (o, e)) (h2 : isIv c m o = true) (h3 : fa e = .ok (os, e2)) (h4 : ff (o :: os) = .ok (ret, outs)) {e3 : Env} (h5 : putB (none :: sl) io outs e2 = some e3) : fMethE c m ff io sl f fa env = .ok (ret, e3) := by
  unfold fMethE
  simp [h1, Res.bind, h2, h3, h4, h5, ofO]
theorem fMake_1 (h1 : fa env = .ok (os, e)) (h2 : ff (.ins c [] :: os) = .ok (.val .non, [o])) : fMake c ff fa env = .ok (o, e) := by
  unfold fMake
  simp [h1, Res.bind, h2]
/-! raise, try -/
theorem fRaise_e : fRaise c env = .exc c [] := rfl
theorem kRet_x : kRet (.exc c fs) = .exc c fs := rfl
theorem kSet_x : kSet i (.exc c fs) = .exc c fs := rfl
theorem kIfS_x : kIfS s1 s2 (.exc c fs) = .exc c fs := rfl
theorem kLoop_x : kLoop' bind sb r (.exc c fs) = .exc c fs := rfl
theorem kCall_x : kCall ff io sl (.exc c fs) = .exc c fs := rfl
theorem kB_x : kB (.exc c fs) = .exc c fs := rfl
theorem kNot_x : kNot (.exc c fs) = .exc c fs := rfl
theorem kO2_x {g : PV → PV → Res OV} : kO2 g f2 (.exc c fs) = .exc c fs := rfl
def kTry1 (s2 : FS) (env : Env) (c : Str) (fs : List (Str × PV)) : Option Bool → Res (Flow × Env)
  | some true => noX (s2 (deadE env))
  | some false => .exc c fs
  | none => .stuck
def kTry (caught : Str → Option Bool) (fs : FS) (env : Env) (r : Res (Flow × Env)) : Res (Flow × Env) := match r with
  | .exc c args => kTry1 fs env c args (caught c)
  | r => r
theorem fTry_e {caught : Str → Option Bool} : fTry caught s1 s2 env = kTry caught s2 env (s1 env) := by
  unfold fTry kTry
  cases s1 env with
  | exc c args =>
    show (match caught c with | some true => noX (s2 (deadE env)) | some false => .exc c args | none => .stuck) = kTry1 s2 env c args (caught c)
    cases caught c with
    | none => rfl
    | some b => cases b <;> rfl
  | _ => rfl
theorem kTry_x {caught : Str → Option Bool} : kTry caught s2 env (.exc c fs) = kTry1 s2 env c fs (caught c) := rfl
theorem kTry1_t : kTry1 s2 env c fs (some true) = noX (s2 (deadE env)) := rfl
theorem kTry1_f : kTry1 s2 env c fs (some false) = .exc c fs := rfl
theorem kTry_o {caught : Str → Option Bool} {x : Flow × Env} : kTry caught s2 env (.ok x) = .ok x := rfl
theorem deadE_nil : deadE [] = [] := rfl
theorem deadE_v : deadE (some (.val p) :: env) = some (.val p) :: deadE env := rfl
theorem deadE_n : deadE (none :: env) = none :: deadE env := rfl
theorem deadE_l : deadE (some (.lst l) :: env) = none :: deadE env := rfl
theorem deadE_d {l} : deadE (some (.dct l) :: env) = none :: deadE env := rfl
theorem deadE_i {l} : deadE (some (.ins c l) :: env) = none :: deadE env := rfl
theorem fzKs_nil : fzKs [] = [] := rfl
/-! what came with Ev18 to Ev21 -/
theorem fT0_e : fT0 env = .ok (.dtt [], env) := rfl
theorem fz_dtt {l} : fz (.dtt l) = .dtt l := rfl
theorem kV_dtt {l} : kV i env (some (some (.dtt l))) = .ok (.val (.dtt l), env.set i (some (.val (.dtt l)))) := rfl
def kPkT (env : Env) (r : Res (Bool × Env)) : Res (Bool × Env) := r.bind fun x => .ok (x.1, env)
theorem fPkT_e : fPkT t env = kPkT env (t (frE env)) := rfl
theorem kPkT_o : kPkT env (.ok (b, e)) = .ok (b, env) := rfl
def kDictO (env : Env) : Option (Option OV) → Res (OV × Env)
  | some (some (.dct l)) => if allVal l = true then .ok (.dct l, env) else .stuck
  | some (some (.val (.dct l))) => .ok (.dct (l.map fun kv => (kv.1, .val kv.2)), env)
  | _ => .stuck
theorem fDictO_e : fDictO i env = kDictO env env[i]? := by
  unfold fDictO kDictO
  rcases env[i]? with _ | _ | z
  · rfl
  · rfl
  · cases z with
    | val p => cases p <;> rfl
    | _ => rfl
theorem kDictO_d {l} : kDictO env (some (some (.dct l))) = if allVal l = true then .ok (.dct l, env) else .stuck := rfl
def kTT : Option (Option OV) → Bool
  | some (some (.dtt _)) => true
  | _ => false
theorem isTT_e : isTT env i = kTT env[i]? := by
  unfold isTT kTT
  rcases env[i]? with _ | _ | z
  · rfl
  · rfl
  · cases z <;> rfl
theorem kTT_d {l} : kTT (some (some (.dtt l))) = true := rfl
def kTp2 (i : Nat) (e : Env) : Option V → Option (List Key) → Option (Option OV) → Res (Flow × Env)
    | some v, some ks, some (some (.dtt l)) => if l.length < 10000000 then .ok (.nx, e.set i (some (.dtt (putK l ks v)))) else .stuck
    | _, _, _ => .stuck
def kTp1 (i : Nat) (q : PV) (r : Res (OV × Env)) : Res (Flow × Env) := r.bind fun y => (vl y.1).bind fun p => kTp2 i y.2 (sV q) (kT p) y.2[i]?
def kTp (i : Nat) (fk : FE) (r : Res (OV × Env)) : Res (Flow × Env) := r.bind fun x => if isTT x.2 i = true then (vl x.1).bind fun q => kTp1 i q (fk x.2) else .stuck
theorem fTput_e : fTput i fk f env = kTp i fk (f env) := by
  unfold fTput kTp kTp1 kTp2
  rfl
theorem kTp_o : kTp i fk (.ok (.val q, e)) = if isTT e i = true then kTp1 i q (fk e) else .stuck := rfl
theorem kTp1_o : kTp1 i q (.ok (.val p, e)) = kTp2 i e (sV q) (kT p) e[i]? := rfl
theorem kTp2_o {v : V} {ks : List Key} {l} : kTp2 i e (some v) (some ks) (some (some (.dtt l))) = if l.length < 10000000 then .ok (.nx, e.set i (some (.dtt (putK l ks v)))) else .stuck := rfl
theorem sV_bl : sV (.bl b) = some (.bl b) := rfl
theorem sV_int {z : Int} : sV (.int z) = some (.int z) := rfl
theorem kT_2 {x y : Int} : kT (.tup [.int x, .int y]) = some [.inl x, .inl y] := rfl
theorem kT_3 {x y z : Int} : kT (.tup [.int x, .int y, .int z]) = some [.inl x, .inl y, .inl z] := rfl
def kSfS' (c f : Str) (i : Nat) (o : OV) (e : Env) : Option (Option OV) → Res (Flow × Env)
  | some (some (.ins c' fs)) => if c' = c ∧ fs.length < 1000 then .ok (.nx, e.set i (some (.ins c' (putFO f o fs)))) else .stuck
  | _ => .stuck
def kSfS (c f : Str) (i : Nat) (r : Res (OV × Env)) : Res (Flow × Env) := r.bind fun x => kSfS' c f i x.1 x.2 x.2[i]?
theorem fSfSet_e {f : Str} : fSfSet c f i fk env = kSfS c f i (fk env) := by
  unfold fSfSet kSfS kSfS'
  rfl
theorem kSfS_o {f : Str} : kSfS c f i (.ok (o, e)) = kSfS' c f i o e e[i]? := rfl
theorem kSfS'_o {f : Str} {fs : List (Str × OV)} : kSfS' c f i o e (some (some (.ins c fs))) = if fs.length < 1000 then .ok (.nx, e.set i (some (.ins c (putFO f o fs)))) else .stuck := by
  unfold kSfS'
  simp
def kWh' (t : FT) (sb : FS) (n : Nat) (x : Res (Flow × Env)) : Res (Flow × Env) := x.bind fun x => match x.1 with
      | .nx => fWhile t sb n x.2
      | .ct => fWhile t sb n x.2
      | .bk => .ok (.nx, x.2)
      | .rt o => .ok (.rt o, x.2)
def kWh (t : FT) (sb : FS) (n : Nat) (r : Res (Bool × Env)) : Res (Flow × Env) := r.bind fun b => if b.1 = true then kWh' t sb n (sb b.2) else .ok (.nx, b.2)
theorem wh_succ : fWhile t sb (n + 1) env = kWh t sb n (t env) := by
  rw [fWhile]
  rfl
theorem kWh_t : kWh t sb n (.ok (true, e)) = kWh' t sb n (sb e) := rfl
theorem kWh_f : kWh t sb n (.ok (false, e)) = .ok (.nx, e) := rfl
theorem kWh'_nx : kWh' t sb n (.ok (.nx, e)) = fWhile t sb n e := rfl
def kMk2 (r : Res (OV × List OV)) (e : Env) : Res (OV × Env) := r.bind fun y => match y.2 with
  | [o] => .ok (o, e)
  | _ => .stuck
def kSP (i : Nat) (p : List Pe) (k : Nat) (r : Res (OV × Env)) : Res (Flow × Env) := r.bind fun x => match x.1, x.2[i]?, x.2[k]? with
  | .val q, some (some o), some (some (.val (.int z))) => (match gAt x.2 o p with
    | some (.lst l) => (match ixN l.length z with
      | some j => (match pAt x.2 o p (.lst (l.set j (.val q))) with
        | some o' => .ok (.nx, x.2.set i (some o'))
        | none => .stuck)
      | none => .stuck)
    | _ => .stuck)
  | _, _, _ => .stuck
theorem fSetP_e {p : List Pe} {k : Nat} : fSetP i p k f env = kSP i p k (f env) := rfl
def kD1 (fv : FE) (r : Res (OV × Env)) : Res (OV × Env) := r.bind fun x => (vl x.1).bind fun k => (fv x.2).bind fun y => (vl y.1).bind fun v => match kO k with
  | some q => .ok (.dct [(kP q, .val v)], y.2)
  | none => .stuck
def kD1' (k : PV) (r : Res (OV × Env)) : Res (OV × Env) := r.bind fun y => (vl y.1).bind fun v => match kO k with
  | some q => .ok (.dct [(kP q, .val v)], y.2)
  | none => .stuck
theorem fD1_e {fk fv : FE} : fD1 fk fv env = kD1 fv (fk env) := rfl
theorem kD1_o {fv : FE} {k : PV} : kD1 fv (.ok (.val k, e)) = kD1' k (fv e) := rfl
theorem kD1'_o {i : Int} {v : PV} : kD1' (.int i) (.ok (.val v, e)) = .ok (.dct [(.int i, .val v)], e) := rfl
end
end Ev

/-! # LM 1: draws -/
namespace Ev
open PySem L2
/-- draws: the next one first -/
def encD (D : List Int) : OV := .lst (D.map fun i => OV.val (.int i)).reverse
def takeV (D : List Int) (m : Int) : Int := match D with
  | [] => 0
  | d :: _ => d % m
def takeR (D : List Int) : List Int := D.drop 1
theorem takeV_range (D : List Int) {m : Int} (h : 0 < m) : 0 ≤ takeV D m ∧ takeV D m < m := by
  unfold takeV
  split
  · omega
  · exact ⟨Int.emod_nonneg _ (by omega), Int.emod_lt_of_pos _ h⟩
def bTake : FS := (fSeq (fIfS (fB (fO2 gEq (fPk (fCB gLen (fA1 (fV 0) fA0))) (fC (.int 0)))) (fRet (fC (.int 0)))
  fNx)
  (fRet (fO2 gMod (fCB gInt (fA1 (fPop 0) fA0)) (fV 1))))
theorem gEq_int {a b : Int} : gEq (.int a) (.int b) = .ok (.val (.bl (decide (a = b)))) := rfl
theorem gEq_str {a b : Str} : gEq (.str a) (.str b) = .ok (.val (.bl (decide (a = b)))) := rfl
theorem gNe_int {a b : Int} : gNe (.int a) (.int b) = .ok (.val (.bl (!decide (a = b)))) := rfl
theorem gNe_str {a b : Str} : gNe (.str a) (.str b) = .ok (.val (.bl (!decide (a = b)))) := rfl
theorem gLen_l {l : List PV} : gLen [.lst l] = .ok (.val (.int l.length)) := rfl
theorem gLen_t {l : List PV} : gLen [.tup l] = .ok (.val (.int l.length)) := rfl
theorem gLen_d {l : List (PV × PV)} : gLen [.dct l] = .ok (.val (.int l.length)) := rfl
theorem gInt_i {a : Int} : gInt [.int a] = .ok (.val (.int a)) := rfl
theorem gInt_t : gInt [.bl true] = .ok (.val (.int 1)) := rfl
theorem gInt_f : gInt [.bl false] = .ok (.val (.int 0)) := rfl
theorem gMod_i {a b : Int} (h : 0 < b) : gMod (.int a) (.int b) = .ok (.val (.int (a % b))) := by
  show (if decide (0 < b) = true then _ else _) = _
  rw [decide_eq_true h]
  rfl
theorem gDiv_i {a b : Int} (h : 0 < b) (h2 : b < 1073741824) : gDiv (.int a) (.int b) = .ok (.val (.int (a / b))) := by
  show (if (decide (0 < b) && decide (b < 1073741824)) = true then _ else _) = _
  rw [decide_eq_true h, decide_eq_true h2]
  rfl
theorem gAdd_i {a b : Int} : gAdd (.int a) (.int b) = .ok (.val (.int (a + b))) := rfl
theorem gSub_i {a b : Int} : gSub (.int a) (.int b) = .ok (.val (.int (a - b))) := rfl
theorem gMul_i {a b : Int} (h : cMul a b = true) : gMul (.int a) (.int b) = .ok (.val (.int (a * b))) := by
  show (if cMul a b = true then _ else _) = _
  rw [h]
  rfl
theorem gLt_i {a b : Int} : gLt (.int a) (.int b) = .ok (.val (.bl (decide (a < b)))) := rfl
theorem gLe_i {a b : Int} : gLe (.int a) (.int b) = .ok (.val (.bl (decide (a ≤ b)))) := rfl
theorem gGt_i {a b : Int} : gGt (.int a) (.int b) = .ok (.val (.bl (decide (b < a)))) := rfl
theorem gGe_i {a b : Int} : gGe (.int a) (.int b) = .ok (.val (.bl (decide (b ≤ a)))) := rfl
theorem gIx_l {l : List PV} {i : Int} {p : PV} (h : atI l i = some p) : gIx (.lst l) (.int i) = .ok (.val p) := by
  show (match atI l i with | some p => ov p | none => .stuck) = _
  rw [h]
  rfl
theorem take_eq {D : List Int} {m : Int} (h : 0 < m) : fn 2 [0] bTake [encD D, .val (.int m)] = .ok (.val (.int (takeV D m)), [encD (takeR D)]) := by
  cases D with
  | nil => rfl
  | cons d D =>
    have e1 : ((((D.length : Nat) : Int)) + 1 = 0) = False := by simp; omega
    simp only [bTake, encD, fSeq_e, kSeq_nx, kSeq_rt, kSeq_bk, kSeq_ct, kSeq_exc, fIfS_e, kIfS_t, kIfS_f, fNx_e, fBk_e, fCt_e, fRetN_e, fRet_e, kRet_o, fExpr_e, kExpr_o, kExpr_x, fSet_e, kSet_o, fC_e, fV_e, kV_val, kV_lst, kV_dct, kV_ins, fM_e, kM_o, fZ_e, kZ_o, kG_o, ov_e, fO2_e, kO2_o, kO2'_o, fO1_e, kO1_o, fIsi_e, fB_e, kB_o, fNot_e, kNot_o, fAnd_e, kAnd_t, kAnd_f, fOr_e, kOr_t, kOr_f, fAndV_e, kAndV_t, kAndV_f, fOrV_e, kOrV_t, kOrV_f, fNotV_e, kNotV_o, fIf_e, kIf_t, kIf_f, fA0_e, fA1_e, kA1_o, kA1'_o, vls_nil, vls_cons, kVls_o, fTup_e, kTup_o, kTup'_o, fLst_e, kLst_o, fCB_e, kCB_o, kCB'_o, frE_nil, frE_c, fPk_e, kPk_int, kPk_bl, kPk_str, kPk_non, fz_val, fz_lst, fz_dct, fz_ins, fzs_nil, fzs_cons, fCall_e, kCall_o, kCall'_o, kCall'_x, kPut_o, putB_nil, putB_cons, kB1_s, kB1_n, kB2_n, outs_nil, outs_cons, kOuts_o, kCons_o, kOut_o, fn_e, kFn_nx, kFn_rt, kFn_x, fFor_e, kFor_o, kFor_x, loop_nil, loop_cons, kLoop_o, kLoop_nx, kLoop_ct, kLoop_bk, kLoop_rt, fIt_e, kIt_l, kIt_t, fR1_e, kR1_o, fR2_e, kR2_o, fR3_e, kR3_o, fGn_e, fGt_e, fGs1_e, kGs_o, fGs0_e, fAsg_e, kAsg_o, kAsg'_o, isL_e, kL_l, fApp_e, kApp_o, kApp'_o, fExt_e, kExt_o, kExt'_o, fPop_e, kPop_l, kPop'_o, fRev_e, kRev_l, fP0_e, fP1_e, kP1_i, fSl_e, kSl_o, kSl1_o, kSl2_o, fSetL_e, kSL_o, kSL1_o, fLc_e, kLc_o, kLc'_o, wipe_nil, wipe_cons, lcl_nil, lcl_cons, kLc1_o, kLc2_t, kLc2_f, kLc3_o, fYes_e, fD0_e, fDput_e, kDp_o, kDp1_o, kO_int, kDp2_o, isD_e, kD_d, fForD_e, noXF_e, kFD_d, noX_o, fSf_e, kSf_1, isI_e, kI_0, fMeth_e, kMe_o, kMe1_o, kMe2_o, fRaise_e, kRet_x, kSet_x, kIfS_x, kLoop_x, kCall_x, kB_x, kNot_x, kO2_x, fTry_e, kTry_x, kTry1_t, kTry1_f, kTry_o, deadE_nil, deadE_v, deadE_n, deadE_l, deadE_d, deadE_i, fzKs_nil, fT0_e, fz_dtt, kV_dtt, fPkT_e, kPkT_o, fDictO_e, kDictO_d, isTT_e, kTT_d, fTput_e, kTp_o, kTp1_o, kTp2_o, sV_bl, sV_int, kT_2, kT_3, fSfSet_e, kSfS_o, kSfS'_o, kWh_t, kWh_f, kWh'_nx, fD1_e, kD1_o, kD1'_o, eq_self, Int.reduceLT, Int.reduceLE, Int.reduceEq, Int.reduceNeg, Bool.false_eq_true, if_false, Option.map_some, Option.map_none, List.map_cons, List.map_nil, List.length_cons, List.length_nil, List.cons_append, List.nil_append, Nat.reduceAdd, Nat.reduceSub, List.replicate_succ, List.replicate_zero, List.append_nil, List.getElem?_cons_zero, List.getElem?_cons_succ, List.set_cons_zero, List.set_cons_succ, if_true, reduceIte, decide_true, decide_false, Bool.not_true, Bool.not_false, gLen_l, gEq_int, fzs_map, List.length_map, List.length_reverse, List.length_append, List.reverse_cons, Int.natCast_add, Int.cast_ofNat_Int, e1, List.getLast?_concat, List.dropLast_concat, gInt_i, gMod_i h, takeV, takeR, List.drop_succ_cons, List.drop_zero]

/-! ### the draws -/
def bDrawsL : FS := (fSeq (fSet 6 (fO2 gMod (fV 5) (fPk (fCB gLen (fA1 (fV 2) fA0)))))
  (fSeq (fSet 7 (fPk (fO2 gIx (fV 2) (fV 6))))
  (fSeq (fSet 4 (fO2 gMod (fCB gInt (fA1 (fO2 gAdd (fO2 gAdd (fO2 gAdd (fO2 gMul (fV 4) (fC (.int 48271))) (fO2 gMul (fO2 gMod (fCB gInt (fA1 (fV 7) fA0)) (fC (.int 1000003))) (fC (.int 69621)))) (fO2 gMul (fV 5) (fC (.int 7919)))) (fC (.int 11))) fA0)) (fC (.int 2147483647))))
  (fSeq (fSet 8 (fO2 gMod (fCB gInt (fA1 (fO2 gAdd (fO2 gAdd (fO2 gMul (fV 4) (fV 4)) (fO2 gMul (fC (.int 31)) (fV 4))) (fV 5)) fA0)) (fC (.int 1000003))))
  (fIfS (fB (fO2 gGe (fV 7) (fO2 gPow (fC (.int 10)) (fC (.int 18))))) (fSeq (fExpr (fApp 3 (fO2 gMod (fCB gInt (fA1 (fV 7) fA0)) (fC (.int 1000)))))
  (fSetL 2 (fV 6) (fO2 gDiv (fV 7) (fC (.int 1000)))))
  (fExpr (fApp 3 (fO2 gMod (fCB gInt (fA1 (fV 8) fA0)) (fC (.int 1000))))))))))
def bDraws : FS := (fSeq (fSet 2 (fCB gList (fA1 (fV 0) fA0)))
  (fSeq (fIfS (fB (fO2 gEq (fPk (fCB gLen (fA1 (fV 2) fA0))) (fC (.int 0)))) (fSet 2 (fLst (fA1 (fC (.int 7)) fA0)))
  fNx)
  (fSeq (fSet 3 (fLst fA0))
  (fSeq (fSet 4 (fC (.int 12345)))
  (fSeq (fFor (fR1 (fA1 (fV 1) fA0)) (fGn 5) bDrawsL)
  (fSeq (fExpr (fRev 3))
  (fRet (fM 3))))))))
def lsI (l : List Int) : OV := .lst (l.map fun i => OV.val (.int i))
theorem atI_some {l : List Int} {i : Int} {j : Nat} (h : ixN l.length i = some j) (hj : j < l.length) : ∃ c, atI (l.map PV.int) i = some (.int c) := by
  unfold atI
  rw [List.length_map, h]
  exact ⟨l[j], by simp [hj]⟩
/-- one turn -/
theorem draws_turn {p0 p1 p5 p6 p7 p8 : Option OV} {cells found : List Int} {mixed k : Int} (hc : 0 < cells.length) (hm : 0 ≤ mixed ∧ mixed < 2147483647) (hf : found.length ≤ 1000) :
    ∃ cells' found' mixed' p6' p7' p8', bDrawsL [p0, p1, some (lsI cells), some (lsI found), some (.val (.int mixed)), some (.val (.int k)), p6, p7, p8] = .ok (.nx, [p0, p1, some (lsI cells'), some (lsI found'), some (.val (.int mixed')), some (.val (.int k)), p6', p7', p8'])
      ∧ 0 < cells'.length ∧ (0 ≤ mixed' ∧ mixed' < 2147483647) ∧ found'.length = found.length + 1 := by
  have hl : (0 : Int) < cells.length := by omega
  have h1 : 0 ≤ k % (cells.length : Int) := Int.emod_nonneg _ (by omega)
  have h2 : k % (cells.length : Int) < cells.length := Int.emod_lt_of_pos _ hl
  have ej : ixN cells.length (k % cells.length) = some (k % (cells.length : Int)).toNat := by
    unfold ixN
    rw [if_pos h1, if_pos h2]
  have hj : (k % (cells.length : Int)).toNat < cells.length := by omega
  have ej2 : ixN (cells.map fun i => OV.val (.int i)).length (k % cells.length) = some (k % (cells.length : Int)).toNat := by rw [List.length_map]; exact ej
  obtain ⟨c, ec⟩ := atI_some ej hj
  have hm1 : cMul mixed 48271 = true := by unfold cMul; simp
  have hm2 : ∀ x : Int, cMul x 69621 = true := fun x => by unfold cMul; simp
  have hm3 : ∀ x : Int, cMul x 7919 = true := fun x => by unfold cMul; simp
  have hm4 : ∀ x : Int, 0 ≤ x → x < 2147483647 → cMul x x = true := fun x h1 h2 => by unfold cMul; simp; omega
  have hm5 : ∀ x : Int, cMul 31 x = true := fun x => by unfold cMul; simp
  have hM : ∀ x : Int, 0 ≤ x % 2147483647 ∧ x % 2147483647 < 2147483647 := fun x => ⟨Int.emod_nonneg _ (by omega), Int.emod_lt_of_pos _ (by omega)⟩
  obtain ⟨m1, em⟩ : ∃ m1 : Int, m1 = (mixed * 48271 + c % 1000003 * 69621 + k * 7919 + 11) % 2147483647 := ⟨_, rfl⟩
  have hm1' : 0 ≤ m1 ∧ m1 < 2147483647 := em ▸ hM _
  have hm4' := hm4 m1 hm1'.1 hm1'.2
  have hp : gPow (.int 10) (.int 18) = .ok (.val (.int 1000000000000000000)) := rfl
  have q1 : (0 : Int) < 1000003 := by decide
  have q2 : (0 : Int) < 2147483647 := by decide
  have q3 : (0 : Int) < 1000 := by decide
  have q4 : (1000 : Int) < 1073741824 := by decide
  have hf' : found.length ≤ 10000000 := by omega
  have eP : ((fun x => fz x) ∘ fun i => OV.val (PV.int i)) = PV.int := rfl
  by_cases hb : (1000000000000000000 : Int) ≤ c
  · refine ⟨cells.set (k % (cells.length : Int)).toNat (c / 1000), found ++ [c % 1000], m1, some (.val (.int (k % cells.length))), some (.val (.int c)), some (.val (.int ((m1 * m1 + 31 * m1 + k) % 1000003))), ?_, by simpa using hc, hm1', by simp⟩
    simp only [bDrawsL, lsI, fSeq_e, kSeq_nx, kSeq_rt, kSeq_bk, kSeq_ct, kSeq_exc, fIfS_e, kIfS_t, kIfS_f, fNx_e, fBk_e, fCt_e, fRetN_e, fRet_e, kRet_o, fExpr_e, kExpr_o, kExpr_x, fSet_e, kSet_o, fC_e, fV_e, kV_val, kV_lst, kV_dct, kV_ins, fM_e, kM_o, fZ_e, kZ_o, kG_o, ov_e, fO2_e, kO2_o, kO2'_o, fO1_e, kO1_o, fIsi_e, fB_e, kB_o, fNot_e, kNot_o, fAnd_e, kAnd_t, kAnd_f, fOr_e, kOr_t, kOr_f, fAndV_e, kAndV_t, kAndV_f, fOrV_e, kOrV_t, kOrV_f, fNotV_e, kNotV_o, fIf_e, kIf_t, kIf_f, fA0_e, fA1_e, kA1_o, kA1'_o, vls_nil, vls_cons, kVls_o, fTup_e, kTup_o, kTup'_o, fLst_e, kLst_o, fCB_e, kCB_o, kCB'_o, frE_nil, frE_c, fPk_e, kPk_int, kPk_bl, kPk_str, kPk_non, fz_val, fz_lst, fz_dct, fz_ins, fzs_nil, fzs_cons, fCall_e, kCall_o, kCall'_o, kCall'_x, kPut_o, putB_nil, putB_cons, kB1_s, kB1_n, kB2_n, outs_nil, outs_cons, kOuts_o, kCons_o, kOut_o, fn_e, kFn_nx, kFn_rt, kFn_x, fFor_e, kFor_o, kFor_x, loop_nil, loop_cons, kLoop_o, kLoop_nx, kLoop_ct, kLoop_bk, kLoop_rt, fIt_e, kIt_l, kIt_t, fR1_e, kR1_o, fR2_e, kR2_o, fR3_e, kR3_o, fGn_e, fGt_e, fGs1_e, kGs_o, fGs0_e, fAsg_e, kAsg_o, kAsg'_o, isL_e, kL_l, fApp_e, kApp_o, kApp'_o, fExt_e, kExt_o, kExt'_o, fPop_e, kPop_l, kPop'_o, fRev_e, kRev_l, fP0_e, fP1_e, kP1_i, fSl_e, kSl_o, kSl1_o, kSl2_o, fSetL_e, kSL_o, kSL1_o, fLc_e, kLc_o, kLc'_o, wipe_nil, wipe_cons, lcl_nil, lcl_cons, kLc1_o, kLc2_t, kLc2_f, kLc3_o, fYes_e, fD0_e, fDput_e, kDp_o, kDp1_o, kO_int, kDp2_o, isD_e, kD_d, fForD_e, noXF_e, kFD_d, noX_o, fSf_e, kSf_1, isI_e, kI_0, fMeth_e, kMe_o, kMe1_o, kMe2_o, fRaise_e, kRet_x, kSet_x, kIfS_x, kLoop_x, kCall_x, kB_x, kNot_x, kO2_x, fTry_e, kTry_x, kTry1_t, kTry1_f, kTry_o, deadE_nil, deadE_v, deadE_n, deadE_l, deadE_d, deadE_i, fzKs_nil, fT0_e, fz_dtt, kV_dtt, fPkT_e, kPkT_o, fDictO_e, kDictO_d, isTT_e, kTT_d, fTput_e, kTp_o, kTp1_o, kTp2_o, sV_bl, sV_int, kT_2, kT_3, fSfSet_e, kSfS_o, kSfS'_o, kWh_t, kWh_f, kWh'_nx, fD1_e, kD1_o, kD1'_o, eq_self, Int.reduceLT, Int.reduceLE, Int.reduceEq, Int.reduceNeg, Bool.false_eq_true, if_false, Option.map_some, Option.map_none, List.map_cons, List.map_nil, List.length_cons, List.length_nil, List.cons_append, List.nil_append, Nat.reduceAdd, Nat.reduceSub, List.replicate_succ, List.replicate_zero, List.append_nil, List.getElem?_cons_zero, List.getElem?_cons_succ, List.set_cons_zero, List.set_cons_succ, if_true, reduceIte, decide_true, decide_false, Bool.not_true, Bool.not_false, gLen_l, fzs_map, List.map_map, List.length_map, gMod_i hl, gIx_l ec, eP, gMul_i hm1, gMul_i (hm2 _), gMul_i (hm3 _), gMul_i hm4', gMul_i (hm5 _), gMod_i q1, gMod_i q2, gMod_i q3, gDiv_i q3 q4, gAdd_i, gInt_i, ← em, hp, gGe_i, hb, hf', List.map_append, kSL2_o ej2, List.map_set]
  · refine ⟨cells, found ++ [(m1 * m1 + 31 * m1 + k) % 1000003 % 1000], m1, some (.val (.int (k % cells.length))), some (.val (.int c)), some (.val (.int ((m1 * m1 + 31 * m1 + k) % 1000003))), ?_, by simpa using hc, hm1', by simp⟩
    simp only [bDrawsL, lsI, fSeq_e, kSeq_nx, kSeq_rt, kSeq_bk, kSeq_ct, kSeq_exc, fIfS_e, kIfS_t, kIfS_f, fNx_e, fBk_e, fCt_e, fRetN_e, fRet_e, kRet_o, fExpr_e, kExpr_o, kExpr_x, fSet_e, kSet_o, fC_e, fV_e, kV_val, kV_lst, kV_dct, kV_ins, fM_e, kM_o, fZ_e, kZ_o, kG_o, ov_e, fO2_e, kO2_o, kO2'_o, fO1_e, kO1_o, fIsi_e, fB_e, kB_o, fNot_e, kNot_o, fAnd_e, kAnd_t, kAnd_f, fOr_e, kOr_t, kOr_f, fAndV_e, kAndV_t, kAndV_f, fOrV_e, kOrV_t, kOrV_f, fNotV_e, kNotV_o, fIf_e, kIf_t, kIf_f, fA0_e, fA1_e, kA1_o, kA1'_o, vls_nil, vls_cons, kVls_o, fTup_e, kTup_o, kTup'_o, fLst_e, kLst_o, fCB_e, kCB_o, kCB'_o, frE_nil, frE_c, fPk_e, kPk_int, kPk_bl, kPk_str, kPk_non, fz_val, fz_lst, fz_dct, fz_ins, fzs_nil, fzs_cons, fCall_e, kCall_o, kCall'_o, kCall'_x, kPut_o, putB_nil, putB_cons, kB1_s, kB1_n, kB2_n, outs_nil, outs_cons, kOuts_o, kCons_o, kOut_o, fn_e, kFn_nx, kFn_rt, kFn_x, fFor_e, kFor_o, kFor_x, loop_nil, loop_cons, kLoop_o, kLoop_nx, kLoop_ct, kLoop_bk, kLoop_rt, fIt_e, kIt_l, kIt_t, fR1_e, kR1_o, fR2_e, kR2_o, fR3_e, kR3_o, fGn_e, fGt_e, fGs1_e, kGs_o, fGs0_e, fAsg_e, kAsg_o, kAsg'_o, isL_e, kL_l, fApp_e, kApp_o, kApp'_o, fExt_e, kExt_o, kExt'_o, fPop_e, kPop_l, kPop'_o, fRev_e, kRev_l, fP0_e, fP1_e, kP1_i, fSl_e, kSl_o, kSl1_o, kSl2_o, fSetL_e, kSL_o, kSL1_o, fLc_e, kLc_o, kLc'_o, wipe_nil, wipe_cons, lcl_nil, lcl_cons, kLc1_o, kLc2_t, kLc2_f, kLc3_o, fYes_e, fD0_e, fDput_e, kDp_o, kDp1_o, kO_int, kDp2_o, isD_e, kD_d, fForD_e, noXF_e, kFD_d, noX_o, fSf_e, kSf_1, isI_e, kI_0, fMeth_e, kMe_o, kMe1_o, kMe2_o, fRaise_e, kRet_x, kSet_x, kIfS_x, kLoop_x, kCall_x, kB_x, kNot_x, kO2_x, fTry_e, kTry_x, kTry1_t, kTry1_f, kTry_o, deadE_nil, deadE_v, deadE_n, deadE_l, deadE_d, deadE_i, fzKs_nil, fT0_e, fz_dtt, kV_dtt, fPkT_e, kPkT_o, fDictO_e, kDictO_d, isTT_e, kTT_d, fTput_e, kTp_o, kTp1_o, kTp2_o, sV_bl, sV_int, kT_2, kT_3, fSfSet_e, kSfS_o, kSfS'_o, kWh_t, kWh_f, kWh'_nx, fD1_e, kD1_o, kD1'_o, eq_self, Int.reduceLT, Int.reduceLE, Int.reduceEq, Int.reduceNeg, Bool.false_eq_true, if_false, Option.map_some, Option.map_none, List.map_cons, List.map_nil, List.length_cons, List.length_nil, List.cons_append, List.nil_append, Nat.reduceAdd, Nat.reduceSub, List.replicate_succ, List.replicate_zero, List.append_nil, List.getElem?_cons_zero, List.getElem?_cons_succ, List.set_cons_zero, List.set_cons_succ, if_true, reduceIte, decide_true, decide_false, Bool.not_true, Bool.not_false, gLen_l, fzs_map, List.map_map, List.length_map, gMod_i hl, gIx_l ec, eP, gMul_i hm1, gMul_i (hm2 _), gMul_i (hm3 _), gMul_i hm4', gMul_i (hm5 _), gMod_i q1, gMod_i q2, gMod_i q3, gDiv_i q3 q4, gAdd_i, gInt_i, ← em, hp, gGe_i, hb, hf', List.map_append, kSL2_o ej2, List.map_set]

theorem draws_loop : ∀ (ks : List Int) {p0 p1 p5 p6 p7 p8 : Option OV} {cells found : List Int} {mixed : Int}, 0 < cells.length → (0 ≤ mixed ∧ mixed < 2147483647) → found.length + ks.length ≤ 1000 →
    ∃ cells' found' mixed' p5' p6' p7' p8', fLoop (fGn 5) bDrawsL (ks.map PV.int) [p0, p1, some (lsI cells), some (lsI found), some (.val (.int mixed)), p5, p6, p7, p8] = .ok (.nx, [p0, p1, some (lsI cells'), some (lsI found'), some (.val (.int mixed')), p5', p6', p7', p8'])
  | [], p0, p1, p5, p6, p7, p8, cells, found, mixed, _, _, _ => ⟨_, _, _, _, _, _, _, rfl⟩
  | k :: ks, p0, p1, p5, p6, p7, p8, cells, found, mixed, hc, hm, hf => by
    rw [List.length_cons] at hf
    obtain ⟨cells1, found1, mixed1, p6', p7', p8', e1, h1, h2, h3⟩ := draws_turn (p0 := p0) (p1 := p1) (p5 := p5) (p6 := p6) (p7 := p7) (p8 := p8) (k := k) hc hm (by omega : found.length ≤ 1000)
    obtain ⟨cells2, found2, mixed2, p5'', p6'', p7'', p8'', e2⟩ := draws_loop ks (p0 := p0) (p1 := p1) (p5 := some (.val (.int k))) (p6 := p6') (p7 := p7') (p8 := p8') h1 h2 (by omega : found1.length + ks.length ≤ 1000)
    refine ⟨cells2, found2, mixed2, p5'', p6'', p7'', p8'', ?_⟩
    rw [List.map_cons, loop_cons]
    show kLoop' _ _ _ (bDrawsL [p0, p1, some (lsI cells), some (lsI found), some (.val (.int mixed)), some (.val (.int k)), p6, p7, p8]) = _
    rw [e1]
    exact e2
theorem rng_map (a b : Int) : rng a b = ((List.range (b - a).toNat).map fun (i : Nat) => a + (i : Int)).map PV.int := by
  unfold rng
  rw [List.map_map]
  rfl
theorem draws_eq (c : Nat) (hc9 : c ≤ 900) (ns : List Int) : ∃ D, fn 9 [] bDraws [.val (.scr ns), .val (.int (c : Int))] = .ok (encD D, []) := by
  obtain ⟨cells, hc, ec⟩ : ∃ cells : List Int, 0 < cells.length ∧ ∀ r : FS, (fSeq (fSet 2 (fCB gList (fA1 (fV 0) fA0)))
  (fSeq (fIfS (fB (fO2 gEq (fPk (fCB gLen (fA1 (fV 2) fA0))) (fC (.int 0)))) (fSet 2 (fLst (fA1 (fC (.int 7)) fA0)))
  fNx) r)) [some (.val (.scr ns)), some (.val (.int (c : Int))), none, none, none, none, none, none, none] = r [some (.val (.scr ns)), some (.val (.int (c : Int))), some (lsI cells), none, none, none, none, none, none] := by
    cases ns with
    | nil => exact ⟨[7], by decide, fun r => rfl⟩
    | cons n ns =>
      refine ⟨n :: ns, by simp, fun r => ?_⟩
      have e0 : ((((ns.length + 1 : Nat) : Int)) = 0) = False := by simp; omega
      have eG : gList [.scr (n :: ns)] = .ok (lsI (n :: ns)) := rfl
      have eL : fzs (ns.map fun i => OV.val (.int i)) = ns.map PV.int := by rw [fzs_map, List.map_map]; rfl
      simp only [fSeq_e, kSeq_nx, kSeq_rt, kSeq_bk, kSeq_ct, kSeq_exc, fIfS_e, kIfS_t, kIfS_f, fNx_e, fBk_e, fCt_e, fRetN_e, fRet_e, kRet_o, fExpr_e, kExpr_o, kExpr_x, fSet_e, kSet_o, fC_e, fV_e, kV_val, kV_lst, kV_dct, kV_ins, fM_e, kM_o, fZ_e, kZ_o, kG_o, ov_e, fO2_e, kO2_o, kO2'_o, fO1_e, kO1_o, fIsi_e, fB_e, kB_o, fNot_e, kNot_o, fAnd_e, kAnd_t, kAnd_f, fOr_e, kOr_t, kOr_f, fAndV_e, kAndV_t, kAndV_f, fOrV_e, kOrV_t, kOrV_f, fNotV_e, kNotV_o, fIf_e, kIf_t, kIf_f, fA0_e, fA1_e, kA1_o, kA1'_o, vls_nil, vls_cons, kVls_o, fTup_e, kTup_o, kTup'_o, fLst_e, kLst_o, fCB_e, kCB_o, kCB'_o, frE_nil, frE_c, fPk_e, kPk_int, kPk_bl, kPk_str, kPk_non, fz_val, fz_lst, fz_dct, fz_ins, fzs_nil, fzs_cons, fCall_e, kCall_o, kCall'_o, kCall'_x, kPut_o, putB_nil, putB_cons, kB1_s, kB1_n, kB2_n, outs_nil, outs_cons, kOuts_o, kCons_o, kOut_o, fn_e, kFn_nx, kFn_rt, kFn_x, fFor_e, kFor_o, kFor_x, loop_nil, loop_cons, kLoop_o, kLoop_nx, kLoop_ct, kLoop_bk, kLoop_rt, fIt_e, kIt_l, kIt_t, fR1_e, kR1_o, fR2_e, kR2_o, fR3_e, kR3_o, fGn_e, fGt_e, fGs1_e, kGs_o, fGs0_e, fAsg_e, kAsg_o, kAsg'_o, isL_e, kL_l, fApp_e, kApp_o, kApp'_o, fExt_e, kExt_o, kExt'_o, fPop_e, kPop_l, kPop'_o, fRev_e, kRev_l, fP0_e, fP1_e, kP1_i, fSl_e, kSl_o, kSl1_o, kSl2_o, fSetL_e, kSL_o, kSL1_o, fLc_e, kLc_o, kLc'_o, wipe_nil, wipe_cons, lcl_nil, lcl_cons, kLc1_o, kLc2_t, kLc2_f, kLc3_o, fYes_e, fD0_e, fDput_e, kDp_o, kDp1_o, kO_int, kDp2_o, isD_e, kD_d, fForD_e, noXF_e, kFD_d, noX_o, fSf_e, kSf_1, isI_e, kI_0, fMeth_e, kMe_o, kMe1_o, kMe2_o, fRaise_e, kRet_x, kSet_x, kIfS_x, kLoop_x, kCall_x, kB_x, kNot_x, kO2_x, fTry_e, kTry_x, kTry1_t, kTry1_f, kTry_o, deadE_nil, deadE_v, deadE_n, deadE_l, deadE_d, deadE_i, fzKs_nil, fT0_e, fz_dtt, kV_dtt, fPkT_e, kPkT_o, fDictO_e, kDictO_d, isTT_e, kTT_d, fTput_e, kTp_o, kTp1_o, kTp2_o, sV_bl, sV_int, kT_2, kT_3, fSfSet_e, kSfS_o, kSfS'_o, kWh_t, kWh_f, kWh'_nx, fD1_e, kD1_o, kD1'_o, eq_self, Int.reduceLT, Int.reduceLE, Int.reduceEq, Int.reduceNeg, Bool.false_eq_true, if_false, Option.map_some, Option.map_none, List.map_cons, List.map_nil, List.length_cons, List.length_nil, List.cons_append, List.nil_append, Nat.reduceAdd, Nat.reduceSub, List.replicate_succ, List.replicate_zero, List.append_nil, List.getElem?_cons_zero, List.getElem?_cons_succ, List.set_cons_zero, List.set_cons_succ, if_true, reduceIte, decide_true, decide_false, Bool.not_true, Bool.not_false, eG, gLen_l, gEq_int, e0]
      simp only [lsI, eL, fSeq_e, kSeq_nx, kSeq_rt, kSeq_bk, kSeq_ct, kSeq_exc, fIfS_e, kIfS_t, kIfS_f, fNx_e, fBk_e, fCt_e, fRetN_e, fRet_e, kRet_o, fExpr_e, kExpr_o, kExpr_x, fSet_e, kSet_o, fC_e, fV_e, kV_val, kV_lst, kV_dct, kV_ins, fM_e, kM_o, fZ_e, kZ_o, kG_o, ov_e, fO2_e, kO2_o, kO2'_o, fO1_e, kO1_o, fIsi_e, fB_e, kB_o, fNot_e, kNot_o, fAnd_e, kAnd_t, kAnd_f, fOr_e, kOr_t, kOr_f, fAndV_e, kAndV_t, kAndV_f, fOrV_e, kOrV_t, kOrV_f, fNotV_e, kNotV_o, fIf_e, kIf_t, kIf_f, fA0_e, fA1_e, kA1_o, kA1'_o, vls_nil, vls_cons, kVls_o, fTup_e, kTup_o, kTup'_o, fLst_e, kLst_o, fCB_e, kCB_o, kCB'_o, frE_nil, frE_c, fPk_e, kPk_int, kPk_bl, kPk_str, kPk_non, fz_val, fz_lst, fz_dct, fz_ins, fzs_nil, fzs_cons, fCall_e, kCall_o, kCall'_o, kCall'_x, kPut_o, putB_nil, putB_cons, kB1_s, kB1_n, kB2_n, outs_nil, outs_cons, kOuts_o, kCons_o, kOut_o, fn_e, kFn_nx, kFn_rt, kFn_x, fFor_e, kFor_o, kFor_x, loop_nil, loop_cons, kLoop_o, kLoop_nx, kLoop_ct, kLoop_bk, kLoop_rt, fIt_e, kIt_l, kIt_t, fR1_e, kR1_o, fR2_e, kR2_o, fR3_e, kR3_o, fGn_e, fGt_e, fGs1_e, kGs_o, fGs0_e, fAsg_e, kAsg_o, kAsg'_o, isL_e, kL_l, fApp_e, kApp_o, kApp'_o, fExt_e, kExt_o, kExt'_o, fPop_e, kPop_l, kPop'_o, fRev_e, kRev_l, fP0_e, fP1_e, kP1_i, fSl_e, kSl_o, kSl1_o, kSl2_o, fSetL_e, kSL_o, kSL1_o, fLc_e, kLc_o, kLc'_o, wipe_nil, wipe_cons, lcl_nil, lcl_cons, kLc1_o, kLc2_t, kLc2_f, kLc3_o, fYes_e, fD0_e, fDput_e, kDp_o, kDp1_o, kO_int, kDp2_o, isD_e, kD_d, fForD_e, noXF_e, kFD_d, noX_o, fSf_e, kSf_1, isI_e, kI_0, fMeth_e, kMe_o, kMe1_o, kMe2_o, fRaise_e, kRet_x, kSet_x, kIfS_x, kLoop_x, kCall_x, kB_x, kNot_x, kO2_x, fTry_e, kTry_x, kTry1_t, kTry1_f, kTry_o, deadE_nil, deadE_v, deadE_n, deadE_l, deadE_d, deadE_i, fzKs_nil, fT0_e, fz_dtt, kV_dtt, fPkT_e, kPkT_o, fDictO_e, kDictO_d, isTT_e, kTT_d, fTput_e, kTp_o, kTp1_o, kTp2_o, sV_bl, sV_int, kT_2, kT_3, fSfSet_e, kSfS_o, kSfS'_o, kWh_t, kWh_f, kWh'_nx, fD1_e, kD1_o, kD1'_o, eq_self, Int.reduceLT, Int.reduceLE, Int.reduceEq, Int.reduceNeg, Bool.false_eq_true, if_false, Option.map_some, Option.map_none, List.map_cons, List.map_nil, List.length_cons, List.length_nil, List.cons_append, List.nil_append, Nat.reduceAdd, Nat.reduceSub, List.replicate_succ, List.replicate_zero, List.append_nil, List.getElem?_cons_zero, List.getElem?_cons_succ, List.set_cons_zero, List.set_cons_succ, if_true, reduceIte, decide_true, decide_false, Bool.not_true, Bool.not_false, gLen_l, List.length_map, gEq_int, e0]
  obtain ⟨cells', found', mixed', p5, p6, p7, p8, e⟩ := draws_loop ((List.range ((c : Int) - 0).toNat).map fun (i : Nat) => (0 : Int) + (i : Int)) (p0 := some (.val (.scr ns))) (p1 := some (.val (.int (c : Int)))) (p5 := none) (p6 := none) (p7 := none) (p8 := none) (cells := cells) (found := []) (mixed := 12345) hc (by decide) (by rw [List.length_map, List.length_range, List.length_nil]; omega)
  rw [← rng_map] at e
  refine ⟨found', ?_⟩
  have hs : small (c : Int) = true := by unfold small; simp; omega
  rw [fn_e]
  show kFn [] (bDraws [some (.val (.scr ns)), some (.val (.int (c : Int))), none, none, none, none, none, none, none]) = _
  unfold bDraws
  rw [ec]
  have e' : fLoop (fGn 5) bDrawsL (rng 0 (c : Int)) [some (.val (.scr ns)), some (.val (.int (c : Int))), some (lsI cells), some (OV.lst []), some (.val (.int 12345)), none, none, none, none] = .ok (.nx, [some (.val (.scr ns)), some (.val (.int (c : Int))), some (lsI cells'), some (lsI found'), some (.val (.int mixed')), p5, p6, p7, p8]) := e
  simp only [fSeq_e, kSeq_nx, kSeq_rt, kSeq_bk, kSeq_ct, kSeq_exc, fIfS_e, kIfS_t, kIfS_f, fNx_e, fBk_e, fCt_e, fRetN_e, fRet_e, kRet_o, fExpr_e, kExpr_o, kExpr_x, fSet_e, kSet_o, fC_e, fV_e, kV_val, kV_lst, kV_dct, kV_ins, fM_e, kM_o, fZ_e, kZ_o, kG_o, ov_e, fO2_e, kO2_o, kO2'_o, fO1_e, kO1_o, fIsi_e, fB_e, kB_o, fNot_e, kNot_o, fAnd_e, kAnd_t, kAnd_f, fOr_e, kOr_t, kOr_f, fAndV_e, kAndV_t, kAndV_f, fOrV_e, kOrV_t, kOrV_f, fNotV_e, kNotV_o, fIf_e, kIf_t, kIf_f, fA0_e, fA1_e, kA1_o, kA1'_o, vls_nil, vls_cons, kVls_o, fTup_e, kTup_o, kTup'_o, fLst_e, kLst_o, fCB_e, kCB_o, kCB'_o, frE_nil, frE_c, fPk_e, kPk_int, kPk_bl, kPk_str, kPk_non, fz_val, fz_lst, fz_dct, fz_ins, fzs_nil, fzs_cons, fCall_e, kCall_o, kCall'_o, kCall'_x, kPut_o, putB_nil, putB_cons, kB1_s, kB1_n, kB2_n, outs_nil, outs_cons, kOuts_o, kCons_o, kOut_o, fn_e, kFn_nx, kFn_rt, kFn_x, fFor_e, kFor_o, kFor_x, loop_nil, loop_cons, kLoop_o, kLoop_nx, kLoop_ct, kLoop_bk, kLoop_rt, fIt_e, kIt_l, kIt_t, fR1_e, kR1_o, fR2_e, kR2_o, fR3_e, kR3_o, fGn_e, fGt_e, fGs1_e, kGs_o, fGs0_e, fAsg_e, kAsg_o, kAsg'_o, isL_e, kL_l, fApp_e, kApp_o, kApp'_o, fExt_e, kExt_o, kExt'_o, fPop_e, kPop_l, kPop'_o, fRev_e, kRev_l, fP0_e, fP1_e, kP1_i, fSl_e, kSl_o, kSl1_o, kSl2_o, fSetL_e, kSL_o, kSL1_o, fLc_e, kLc_o, kLc'_o, wipe_nil, wipe_cons, lcl_nil, lcl_cons, kLc1_o, kLc2_t, kLc2_f, kLc3_o, fYes_e, fD0_e, fDput_e, kDp_o, kDp1_o, kO_int, kDp2_o, isD_e, kD_d, fForD_e, noXF_e, kFD_d, noX_o, fSf_e, kSf_1, isI_e, kI_0, fMeth_e, kMe_o, kMe1_o, kMe2_o, fRaise_e, kRet_x, kSet_x, kIfS_x, kLoop_x, kCall_x, kB_x, kNot_x, kO2_x, fTry_e, kTry_x, kTry1_t, kTry1_f, kTry_o, deadE_nil, deadE_v, deadE_n, deadE_l, deadE_d, deadE_i, fzKs_nil, fT0_e, fz_dtt, kV_dtt, fPkT_e, kPkT_o, fDictO_e, kDictO_d, isTT_e, kTT_d, fTput_e, kTp_o, kTp1_o, kTp2_o, sV_bl, sV_int, kT_2, kT_3, fSfSet_e, kSfS_o, kSfS'_o, kWh_t, kWh_f, kWh'_nx, fD1_e, kD1_o, kD1'_o, eq_self, Int.reduceLT, Int.reduceLE, Int.reduceEq, Int.reduceNeg, Bool.false_eq_true, if_false, Option.map_some, Option.map_none, List.map_cons, List.map_nil, List.length_cons, List.length_nil, List.cons_append, List.nil_append, Nat.reduceAdd, Nat.reduceSub, List.replicate_succ, List.replicate_zero, List.append_nil, List.getElem?_cons_zero, List.getElem?_cons_succ, List.set_cons_zero, List.set_cons_succ, if_true, reduceIte, decide_true, decide_false, Bool.not_true, Bool.not_false, hs, e']
  simp only [lsI, encD, fSeq_e, kSeq_nx, kSeq_rt, kSeq_bk, kSeq_ct, kSeq_exc, fIfS_e, kIfS_t, kIfS_f, fNx_e, fBk_e, fCt_e, fRetN_e, fRet_e, kRet_o, fExpr_e, kExpr_o, kExpr_x, fSet_e, kSet_o, fC_e, fV_e, kV_val, kV_lst, kV_dct, kV_ins, fM_e, kM_o, fZ_e, kZ_o, kG_o, ov_e, fO2_e, kO2_o, kO2'_o, fO1_e, kO1_o, fIsi_e, fB_e, kB_o, fNot_e, kNot_o, fAnd_e, kAnd_t, kAnd_f, fOr_e, kOr_t, kOr_f, fAndV_e, kAndV_t, kAndV_f, fOrV_e, kOrV_t, kOrV_f, fNotV_e, kNotV_o, fIf_e, kIf_t, kIf_f, fA0_e, fA1_e, kA1_o, kA1'_o, vls_nil, vls_cons, kVls_o, fTup_e, kTup_o, kTup'_o, fLst_e, kLst_o, fCB_e, kCB_o, kCB'_o, frE_nil, frE_c, fPk_e, kPk_int, kPk_bl, kPk_str, kPk_non, fz_val, fz_lst, fz_dct, fz_ins, fzs_nil, fzs_cons, fCall_e, kCall_o, kCall'_o, kCall'_x, kPut_o, putB_nil, putB_cons, kB1_s, kB1_n, kB2_n, outs_nil, outs_cons, kOuts_o, kCons_o, kOut_o, fn_e, kFn_nx, kFn_rt, kFn_x, fFor_e, kFor_o, kFor_x, loop_nil, loop_cons, kLoop_o, kLoop_nx, kLoop_ct, kLoop_bk, kLoop_rt, fIt_e, kIt_l, kIt_t, fR1_e, kR1_o, fR2_e, kR2_o, fR3_e, kR3_o, fGn_e, fGt_e, fGs1_e, kGs_o, fGs0_e, fAsg_e, kAsg_o, kAsg'_o, isL_e, kL_l, fApp_e, kApp_o, kApp'_o, fExt_e, kExt_o, kExt'_o, fPop_e, kPop_l, kPop'_o, fRev_e, kRev_l, fP0_e, fP1_e, kP1_i, fSl_e, kSl_o, kSl1_o, kSl2_o, fSetL_e, kSL_o, kSL1_o, fLc_e, kLc_o, kLc'_o, wipe_nil, wipe_cons, lcl_nil, lcl_cons, kLc1_o, kLc2_t, kLc2_f, kLc3_o, fYes_e, fD0_e, fDput_e, kDp_o, kDp1_o, kO_int, kDp2_o, isD_e, kD_d, fForD_e, noXF_e, kFD_d, noX_o, fSf_e, kSf_1, isI_e, kI_0, fMeth_e, kMe_o, kMe1_o, kMe2_o, fRaise_e, kRet_x, kSet_x, kIfS_x, kLoop_x, kCall_x, kB_x, kNot_x, kO2_x, fTry_e, kTry_x, kTry1_t, kTry1_f, kTry_o, deadE_nil, deadE_v, deadE_n, deadE_l, deadE_d, deadE_i, fzKs_nil, fT0_e, fz_dtt, kV_dtt, fPkT_e, kPkT_o, fDictO_e, kDictO_d, isTT_e, kTT_d, fTput_e, kTp_o, kTp1_o, kTp2_o, sV_bl, sV_int, kT_2, kT_3, fSfSet_e, kSfS_o, kSfS'_o, kWh_t, kWh_f, kWh'_nx, fD1_e, kD1_o, kD1'_o, eq_self, Int.reduceLT, Int.reduceLE, Int.reduceEq, Int.reduceNeg, Bool.false_eq_true, if_false, Option.map_some, Option.map_none, List.map_cons, List.map_nil, List.length_cons, List.length_nil, List.cons_append, List.nil_append, Nat.reduceAdd, Nat.reduceSub, List.replicate_succ, List.replicate_zero, List.append_nil, List.getElem?_cons_zero, List.getElem?_cons_succ, List.set_cons_zero, List.set_cons_succ, if_true, reduceIte, decide_true, decide_false, Bool.not_true, Bool.not_false]
end Ev

/-! # LM 2: statements -/
namespace Ev
open PySem L2
def sVar : Str := ⟨#[118, 97, 114]⟩
inductive Lf where
  | tr | fa | has (f : Int) | lacks (f : Int)
inductive Fm where
  | leaf (k : Lf) | var (v : Int) | bin (o : Bool) (a b : Fm) | mod (o : Bool) (l : Int) (a : Fm) | fix (o : Bool) (v : Int) (a : Fm)
def Lf.kd : Lf → Str
  | .tr => ⟨#[116, 114, 117, 101]⟩
  | .fa => ⟨#[102, 97, 108, 115, 101]⟩
  | .has _ => ⟨#[104, 97, 115]⟩
  | .lacks _ => ⟨#[108, 97, 99, 107, 115]⟩
def Lf.args : Lf → List PV
  | .tr => []
  | .fa => []
  | .has f => [.int f]
  | .lacks f => [.int f]
def sBin (o : Bool) : Str := if o = true then ⟨#[111, 114]⟩ else ⟨#[97, 110, 100]⟩
def sMod (o : Bool) : Str := if o = true then ⟨#[97, 108, 108]⟩ else ⟨#[115, 111, 109, 101]⟩
def sFix (o : Bool) : Str := if o = true then ⟨#[109, 111, 115, 116]⟩ else ⟨#[108, 101, 97, 115, 116]⟩
namespace Fm
def kd : Fm → Str
  | .leaf k => k.kd
  | .var _ => sVar
  | .bin o _ _ => sBin o
  | .mod o _ _ => sMod o
  | .fix o _ _ => sFix o
def enc : Fm → PV
  | .leaf k => .tup (.str k.kd :: k.args)
  | .var v => .tup [.str sVar, .int v]
  | .bin o a b => .tup [.str (sBin o), enc a, enc b]
  | .mod o l a => .tup [.str (sMod o), .int l, enc a]
  | .fix o v a => .tup [.str (sFix o), .int v, enc a]
def rest : Fm → List PV
  | .leaf k => k.args
  | .var v => [.int v]
  | .bin _ a b => [enc a, enc b]
  | .mod _ l a => [.int l, enc a]
  | .fix _ v a => [.int v, enc a]
def parts : Fm → List Fm
  | .leaf _ => []
  | .var _ => []
  | .bin _ a b => [a, b]
  | .mod _ _ a => [a]
  | .fix _ _ a => [a]
def isVar : Fm → Bool
  | .var _ => true
  | _ => false
def isFix : Fm → Bool
  | .fix _ _ _ => true
  | _ => false
def ht : Fm → Nat
  | .leaf _ => 0
  | .var _ => 0
  | .bin _ a b => max (ht a) (ht b) + 1
  | .mod _ _ a => ht a + 1
  | .fix _ _ a => ht a + 1
/-- the variables' leaves -/
def nv : Fm → Nat
  | .leaf _ => 0
  | .var _ => 1
  | .bin _ a b => nv a + nv b
  | .mod _ _ a => nv a
  | .fix _ _ a => nv a
theorem enc_eq (s : Fm) : enc s = .tup (.str (kd s) :: rest s) := by cases s <;> rfl
/-- the free ones from the left, each as often as it stands -/
def fr : List Int → Fm → List Int
  | _, .leaf _ => []
  | b, .var v => if v ∈ b then [] else [v]
  | b, .bin _ x y => fr b x ++ fr b y
  | b, .mod _ _ x => fr b x
  | b, .fix _ v x => fr (b ++ [v]) x
def ins (ks : List Int) (v : Int) : List Int := if v ∈ ks then ks else ks ++ [v]
def af : List Int → List Int → Fm → List Int
  | _, ks, .leaf _ => ks
  | b, ks, .var v => if v ∈ b then ks else ins ks v
  | b, ks, .bin _ x y => af b (af b ks x) y
  | b, ks, .mod _ _ x => af b ks x
  | b, ks, .fix _ v x => af (b ++ [v]) ks x
theorem mem_ins {ks : List Int} {u v : Int} : u ∈ ins ks v ↔ u ∈ ks ∨ u = v := by
  unfold ins
  split
  · exact ⟨.inl, fun h => h.elim id fun h => h ▸ by assumption⟩
  · simp
theorem mem_af : ∀ {s : Fm} {b ks : List Int} {u : Int}, u ∈ af b ks s ↔ u ∈ ks ∨ u ∈ fr b s
  | .leaf _, b, ks, u => by simp [af, fr]
  | .var v, b, ks, u => by
    unfold af fr
    split
    · simp
    · rw [mem_ins]; simp
  | .bin _ x y, b, ks, u => by
    unfold af fr
    rw [mem_af, mem_af, List.mem_append, or_assoc]
  | .mod _ _ x, b, ks, u => by
    unfold af fr
    exact mem_af
  | .fix _ v x, b, ks, u => by
    unfold af fr
    exact mem_af
theorem len_af : ∀ {s : Fm} {b ks : List Int}, (af b ks s).length ≤ ks.length + nv s
  | .leaf _, b, ks => by simp [af, nv]
  | .var v, b, ks => by
    unfold af nv ins
    split
    · omega
    · split
      · omega
      · simp
  | .bin _ x y, b, ks => by
    unfold af nv
    have h1 := len_af (s := x) (b := b) (ks := ks)
    have h2 := len_af (s := y) (b := b) (ks := af b ks x)
    omega
  | .mod _ _ x, b, ks => by
    unfold af nv
    exact len_af
  | .fix _ v x, b, ks => by
    unfold af nv
    exact len_af
/-- the variables within b -/
def fin : List Int → Fm → Prop
  | _, .leaf _ => True
  | b, .var v => v ∈ b
  | b, .bin _ x y => fin b x ∧ fin b y
  | b, .mod _ _ x => fin b x
  | b, .fix _ v x => fin (b ++ [v]) x
/-- the drawn numbers -/
def nn : Fm → Prop
  | .leaf .tr => True
  | .leaf .fa => True
  | .leaf (.has f) => 0 ≤ f ∧ f < 2
  | .leaf (.lacks f) => 0 ≤ f ∧ f < 2
  | .var v => 0 ≤ v ∧ v ≤ 7
  | .bin _ x y => nn x ∧ nn y
  | .mod _ l x => (0 ≤ l ∧ l ≤ 1) ∧ nn x
  | .fix _ v x => (0 ≤ v ∧ v ≤ 7) ∧ nn x
theorem fr_nil : ∀ {s : Fm} {b : List Int}, fr b s = [] ↔ fin b s
  | .leaf _, b => by simp [fr, fin]
  | .var v, b => by
    unfold fr fin
    split <;> simp_all
  | .bin _ x y, b => by
    unfold fr fin
    rw [List.append_eq_nil_iff, fr_nil, fr_nil]
  | .mod _ _ x, b => by
    unfold fr fin
    exact fr_nil
  | .fix _ v x, b => by
    unfold fr fin
    exact fr_nil
theorem fin_mono : ∀ {s : Fm} {b c : List Int}, (∀ x ∈ b, x ∈ c) → fin b s → fin c s
  | .leaf _, b, c, _, _ => trivial
  | .var v, b, c, h, k => h v k
  | .bin _ x y, b, c, h, k => ⟨fin_mono h k.1, fin_mono h k.2⟩
  | .mod _ _ x, b, c, h, k => fin_mono (s := x) h k
  | .fix _ v x, b, c, h, k => fin_mono (s := x) (fun x hx => by
    rcases List.mem_append.mp hx with z | z
    · exact List.mem_append_left _ (h x z)
    · exact List.mem_append_right _ z) k
theorem af_nil {s : Fm} (h : fin [] s) : af [] [] s = [] := by
  apply List.eq_nil_iff_forall_not_mem.mpr
  intro u hu
  rcases mem_af.mp hu with z | z
  · cases z
  · rw [fr_nil.mpr h] at z; cases z
/-! names -/
def get (nm : List (Int × Int)) (v : Int) : Int := match nm with
  | [] => 0
  | (k, c) :: l => if k = v then c else get l v
def put (nm : List (Int × Int)) (v c : Int) : List (Int × Int) := if nm.any (fun kv => decide (kv.1 = v)) = true then nm.map (fun kv => if kv.1 = v then (kv.1, c) else kv) else nm ++ [(v, c)]
def keys (nm : List (Int × Int)) : List Int := nm.map (·.1)
def rn : List (Int × Int) → Int → Fm → Fm × Int
  | _, c, .leaf k => (.leaf k, c)
  | nm, c, .var v => (.var (get nm v), c)
  | nm, c, .bin o x y => (.bin o (rn nm c x).1 (rn nm (rn nm c x).2 y).1, (rn nm (rn nm c x).2 y).2)
  | nm, c, .mod o l x => (.mod o l (rn nm c x).1, (rn nm c x).2)
  | nm, c, .fix o v x => (.fix o c (rn (put nm v c) (c + 1) x).1, (rn (put nm v c) (c + 1) x).2)
theorem keys_map {nm : List (Int × Int)} {v c : Int} : keys (nm.map (fun kv => if kv.1 = v then (kv.1, c) else kv)) = keys nm := by
  unfold keys
  rw [List.map_map]
  apply List.map_congr_left
  intro kv _
  show (if kv.1 = v then (kv.1, c) else kv).1 = kv.1
  split <;> rfl
theorem keys_put {nm : List (Int × Int)} {v c : Int} : keys (put nm v c) = ins (keys nm) v := by
  have e : (nm.any (fun kv => decide (kv.1 = v)) = true) ↔ v ∈ keys nm := by
    unfold keys
    simp
  unfold put ins
  by_cases h : v ∈ keys nm
  · rw [if_pos (e.mpr h), if_pos h, keys_map]
  · rw [if_neg (fun z => h (e.mp z)), if_neg h]
    unfold keys
    rw [List.map_append]
    rfl
theorem nodup_ins {ks : List Int} {v : Int} (h : ks.Nodup) : (ins ks v).Nodup := by
  unfold ins
  split
  · exact h
  · rename_i n
    rw [List.nodup_append]
    refine ⟨h, by simp, fun a ha b hb e => ?_⟩
    have : b = v := by simpa using hb
    subst this
    exact n (e ▸ ha)
theorem ht_rn : ∀ {s : Fm} {nm : List (Int × Int)} {c : Int}, ht (rn nm c s).1 = ht s
  | .leaf _, nm, c => rfl
  | .var _, nm, c => rfl
  | .bin o x y, nm, c => by unfold rn ht; rw [ht_rn, ht_rn]
  | .mod _ _ x, nm, c => by unfold rn ht; rw [ht_rn]
  | .fix _ _ x, nm, c => by unfold rn ht; rw [ht_rn]
theorem nv_rn : ∀ {s : Fm} {nm : List (Int × Int)} {c : Int}, nv (rn nm c s).1 = nv s
  | .leaf _, nm, c => rfl
  | .var _, nm, c => rfl
  | .bin o x y, nm, c => by unfold rn nv; rw [nv_rn, nv_rn]
  | .mod _ _ x, nm, c => by unfold rn nv; rw [nv_rn]
  | .fix _ _ x, nm, c => by unfold rn nv; rw [nv_rn]
theorem nv_ht : ∀ {s : Fm}, nv s ≤ 2 ^ ht s
  | .leaf _ => Nat.zero_le _
  | .var _ => Nat.le_refl _
  | .bin o x y => by
    unfold nv ht
    have h1 := nv_ht (s := x)
    have h2 := nv_ht (s := y)
    have h3 : 2 ^ ht x ≤ 2 ^ max (ht x) (ht y) := Nat.pow_le_pow_right (by decide) (Nat.le_max_left _ _)
    have h4 : 2 ^ ht y ≤ 2 ^ max (ht x) (ht y) := Nat.pow_le_pow_right (by decide) (Nat.le_max_right _ _)
    rw [Nat.pow_succ]
    omega
  | .mod _ _ x => by
    unfold nv ht
    have h1 := nv_ht (s := x)
    rw [Nat.pow_succ]
    omega
  | .fix _ _ x => by
    unfold nv ht
    have h1 := nv_ht (s := x)
    rw [Nat.pow_succ]
    omega
/-! binders -/
def bw : Fm → List Fm
  | .leaf _ => []
  | .var _ => []
  | .bin _ x y => bw x ++ bw y
  | .mod _ _ x => bw x
  | .fix o v x => .fix o v x :: bw x
theorem bw_ok : ∀ {s b : Fm}, b ∈ bw s → ht b ≤ ht s ∧ nv b ≤ nv s
  | .bin o x y, b, h => by
    have e1 : ht (.bin o x y) = max (ht x) (ht y) + 1 := rfl
    have e2 : nv (.bin o x y) = nv x + nv y := rfl
    rw [e1, e2]
    rcases List.mem_append.mp h with z | z
    · have := bw_ok z; omega
    · have := bw_ok z; omega
  | .mod o l x, b, h => by
    have e1 : ht (.mod o l x) = ht x + 1 := rfl
    have e2 : nv (.mod o l x) = nv x := rfl
    rw [e1, e2]
    have := bw_ok (s := x) h; omega
  | .fix o v x, b, h => by
    rcases List.mem_cons.mp h with z | z
    · subst z; exact ⟨Nat.le_refl _, Nat.le_refl _⟩
    · have e1 : ht (.fix o v x) = ht x + 1 := rfl
      have e2 : nv (.fix o v x) = nv x := rfl
      rw [e1, e2]
      have := bw_ok (s := x) z; omega
theorem bw_len : ∀ {s : Fm}, (bw s).length + 1 ≤ 2 ^ (ht s + 1)
  | .leaf _ => by show 0 + 1 ≤ 2 ^ (0 + 1); decide
  | .var _ => by show 0 + 1 ≤ 2 ^ (0 + 1); decide
  | .bin o x y => by
    have e1 : ht (.bin o x y) = max (ht x) (ht y) + 1 := rfl
    have e2 : bw (.bin o x y) = bw x ++ bw y := rfl
    have h1 := bw_len (s := x)
    have h2 := bw_len (s := y)
    have h3 : 2 ^ (ht x + 1) ≤ 2 ^ (max (ht x) (ht y) + 1) := Nat.pow_le_pow_right (by decide) (by omega)
    have h4 : 2 ^ (ht y + 1) ≤ 2 ^ (max (ht x) (ht y) + 1) := Nat.pow_le_pow_right (by decide) (by omega)
    rw [e1, e2, List.length_append, Nat.pow_succ]
    omega
  | .mod o l x => by
    have e1 : ht (.mod o l x) = ht x + 1 := rfl
    have e2 : bw (.mod o l x) = bw x := rfl
    have h1 := bw_len (s := x)
    rw [e1, e2, Nat.pow_succ]
    omega
  | .fix o v x => by
    have e1 : ht (.fix o v x) = ht x + 1 := rfl
    have e2 : bw (.fix o v x) = .fix o v x :: bw x := rfl
    have h1 := bw_len (s := x)
    rw [e1, e2, Nat.pow_succ, List.length_cons]
    omega
theorem bw_lt {s : Fm} (h : ht s ≤ 14) : (bw s).length ≤ 32768 := by
  have h1 := bw_len (s := s)
  have h2 : 2 ^ (ht s + 1) ≤ 2 ^ 15 := Nat.pow_le_pow_right (by decide) (by omega)
  have h3 : (2 : Nat) ^ 15 = 32768 := by decide
  omega
/-! alternation -/
def mx (a b : Int) : Int := if b > a then b else a
def alF : Nat → Fm → Int
  | 0, _ => 0
  | _ + 1, .leaf _ => lmax [0]
  | _ + 1, .var _ => lmax [0]
  | k + 1, .bin _ x y => lmax [0, alF k x, alF k y]
  | k + 1, .mod _ _ x => lmax [0, alF k x]
  | k + 1, .fix o v x => (bw x).foldl (fun f b => if ¬ kd b = sFix o ∧ v ∈ fr [] b then mx f (1 + alF k b) else f) (mx (lmax [0, alF k x]) 1)
end Fm
/-! ### as data -/
def dT (ks : List Int) : List (PV × OV) := ks.map fun k => (.int k, .val (.bl true))
def dN (nm : List (Int × Int)) : List (PV × PV) := nm.map fun kv => (.int kv.1, .int kv.2)
def dNo (nm : List (Int × Int)) : List (PV × OV) := nm.map fun kv => (.int kv.1, .val (.int kv.2))
theorem kEq_int {a b : Int} : kEq (.int a) (.int b) = decide (a = b) := by
  unfold kEq kO
  show decide ((Sum.inl a : Key) = Sum.inl b) = _
  by_cases h : a = b
  · subst h; simp
  · simp [h]
theorem putO_T {ks : List Int} {v : Int} : putO (dT ks) (.int v) (.bl true) = dT (Fm.ins ks v) := by
  have e : ((dT ks).any (fun kv => kEq kv.1 (.int v)) = true) ↔ v ∈ ks := by
    unfold dT
    simp [List.any_map, kEq_int]
  unfold putO Fm.ins
  by_cases h : v ∈ ks
  · rw [if_pos (e.mpr h), if_pos h]
    unfold dT
    rw [List.map_map]
    apply List.map_congr_left
    intro k _
    show (if kEq (.int k) (.int v) = true then (PV.int k, OV.val (.bl true)) else (.int k, .val (.bl true))) = _
    split <;> rfl
  · rw [if_neg (fun z => h (e.mp z)), if_neg h]
    unfold dT
    rw [List.map_append]
    rfl
theorem putO_N {nm : List (Int × Int)} {v c : Int} : putO (dNo nm) (.int v) (.int c) = dNo (Fm.put nm v c) := by
  have e : ((dNo nm).any (fun kv => kEq kv.1 (.int v))) = nm.any (fun kv => decide (kv.1 = v)) := by
    unfold dNo
    rw [List.any_map]
    congr 1
    funext kv
    exact kEq_int
  unfold putO Fm.put
  rw [e]
  split
  · unfold dNo
    rw [List.map_map, List.map_map]
    apply List.map_congr_left
    intro kv _
    show (if kEq (.int kv.1) (.int v) = true then (PV.int kv.1, OV.val (.int c)) else (.int kv.1, .val (.int kv.2))) = (fun kv : Int × Int => (PV.int kv.1, OV.val (.int kv.2))) (if kv.1 = v then (kv.1, c) else kv)
    rw [kEq_int]
    by_cases h : kv.1 = v
    · simp [h]
    · simp [h]
  · unfold dNo
    rw [List.map_append]
    rfl
theorem fz_N {nm : List (Int × Int)} : fzKs (dNo nm) = dN nm := by
  rw [fzKs_map]
  unfold dNo dN
  rw [List.map_map]
  rfl
theorem getK_N : ∀ {nm : List (Int × Int)} {v : Int}, v ∈ Fm.keys nm → getK (dN nm) (.int v) = some (.int (Fm.get nm v))
  | [], v, h => nomatch h
  | (k, c) :: l, v, h => by
    show (if kEq (.int k) (.int v) = true then some (PV.int c) else getK (dN l) (.int v)) = some (.int (if k = v then c else Fm.get l v))
    rw [kEq_int]
    by_cases e : k = v
    · simp [e]
    · rw [if_neg (by simpa using e), if_neg e]
      refine getK_N ?_
      rcases List.mem_cons.mp h with z | z
      · exact absurd z.symm e
      · exact z
theorem gDget_N {nm : List (Int × Int)} {v : Int} (h : v ∈ Fm.keys nm) : gDget (.dct (dN nm)) (.int v) = .ok (.val (.int (Fm.get nm v))) := by
  show (match getK (dN nm) (.int v) with | some q => ov q | none => .stuck) = _
  rw [getK_N h]
  rfl
theorem gDict_N {nm : List (Int × Int)} : gDict [.dct (dN nm)] = .ok (.dct (dNo nm)) := by
  show Res.ok (OV.dct ((dN nm).map _)) = _
  unfold dN dNo
  rw [List.map_map]
  rfl
theorem flats_ints (l : List Int) : flats (l.map PV.int) = some (l.map V.int) := by
  induction l with
  | nil => rfl
  | cons a l ih =>
    rw [List.map_cons, flats, ih]
    rfl
theorem inV_ints (a : Int) (l : List Int) : inV (.int a) (l.map V.int) = decide (a ∈ l) := by
  unfold inV
  rw [List.any_map]
  induction l with
  | nil => rfl
  | cons b l ih =>
    rw [List.any_cons, ih]
    show ((b == a) || decide (a ∈ l)) = _
    by_cases h : b = a
    · subst h; simp
    · have : ¬ a = b := fun z => h z.symm
      simp [h, this]
theorem gIn_ints {neg : Bool} {a : Int} {l : List Int} : gIn neg (.int a) (.lst (l.map PV.int)) = .ok (.val (.bl (if neg = true then !decide (a ∈ l) else decide (a ∈ l)))) := by
  unfold gIn inP
  show (match (match flatP (.int a), flats (l.map PV.int) with | some v, some vs => some (inV v vs) | _, _ => none) with | some b => ov (.bl (if neg = true then !b else b)) | none => .stuck) = _
  rw [flats_ints]
  show ov (.bl (if neg = true then !inV (.int a) (l.map V.int) else inV (.int a) (l.map V.int))) = _
  rw [inV_ints]
  rfl
theorem gSl_1 {x : PV} {r : List PV} : gSl (.tup (x :: r)) (some 1) none = .ok (.val (.tup r)) := by
  show Res.ok (OV.val (.tup (cutP (x :: r) (some 1) none))) = _
  have : cutP (x :: r) (some 1) none = r := by
    unfold cutP
    have e1 : HT.sIx (x :: r).length 0 (some 1) = 1 := by
      unfold HT.sIx
      simp
    have e2 : HT.sIx (x :: r).length (x :: r).length none = (x :: r).length := rfl
    rw [e1, e2, List.drop_succ_cons, List.drop_zero, List.length_cons, Nat.add_sub_cancel, List.take_length]
  rw [this]
theorem intsOf_ints (l : List Int) : intsOf (l.map PV.int) = some l := by
  induction l with
  | nil => rfl
  | cons a l ih =>
    rw [List.map_cons, intsOf, ih]
    all_goals rfl
theorem gSortedD_T {ks : List Int} (h : ks.length < 64) : gSortedD [.dct (ks.map fun k => (PV.int k, PV.bl true))] = .ok (.lst ((srt ks).map fun n => OV.val (.int n))) := by
  show (match intsOf ((ks.map fun k => (PV.int k, PV.bl true)).map (·.1)) with
    | some ns => if ns.length < 64 then Res.ok (OV.lst ((srt ns).map fun n => OV.val (.int n))) else Res.stuck
    | none => Res.stuck) = _
  rw [List.map_map, show ((fun x : PV × PV => x.1) ∘ fun k : Int => (PV.int k, PV.bl true)) = PV.int from rfl, intsOf_ints]
  show (if ks.length < 64 then _ else _) = _
  rw [if_pos h]
theorem fz_T {ks : List Int} : fzKs (dT ks) = ks.map fun k => (PV.int k, PV.bl true) := by
  rw [fzKs_map]
  unfold dT
  rw [List.map_map]
  rfl
theorem mem_srt {ks : List Int} {u : Int} : u ∈ srt ks ↔ u ∈ ks := by
  unfold srt
  exact List.mem_mergeSort
theorem gMaxA_ints {a : Int} {l : List Int} : gMaxA [.lst ((a :: l).map PV.int)] = .ok (.val (.int (lmax (a :: l)))) := by
  show gMax [.lst ((a :: l).map PV.int)] = _
  show (match intsOf ((a :: l).map PV.int) with | some (n :: ns) => ov (.int (lmax (n :: ns))) | _ => .stuck) = _
  rw [intsOf_ints]
  rfl
theorem gMaxA_2 {a b : Int} : gMaxA [.int a, .int b] = .ok (.val (.int (if b > a then b else a))) := rfl
theorem gAdd_ll {a b : List PV} (h : a.length + b.length ≤ 10000000) : gAdd (.lst a) (.lst b) = .ok (.lst ((a ++ b).map .val)) := by
  show ol (a ++ b) = _
  unfold ol
  rw [if_pos (by rw [List.length_append]; exact h)]
end Ev

namespace L01
open PySem L2 Ev
def top (i : Nat) : Stmt := PySem.Challenge.pw_fixworlds_k01_names.main.body.getD i (.Pass ⟨0, 0, 0, 0⟩)
def z_var : Str := ⟨#[118, 97, 114]⟩
def z_false : Str := ⟨#[102, 97, 108, 115, 101]⟩
def z_true : Str := ⟨#[116, 114, 117, 101]⟩
def z_lacks : Str := ⟨#[108, 97, 99, 107, 115]⟩
def z_has : Str := ⟨#[104, 97, 115]⟩
def z_or : Str := ⟨#[111, 114]⟩
def z_and : Str := ⟨#[97, 110, 100]⟩
def z_all : Str := ⟨#[97, 108, 108]⟩
def z_some : Str := ⟨#[115, 111, 109, 101]⟩
def z_most : Str := ⟨#[109, 111, 115, 116]⟩
def z_least : Str := ⟨#[108, 101, 97, 115, 116]⟩
def k_BINDERS : List V := [.str ⟨#[108, 101, 97, 115, 116]⟩, .str ⟨#[109, 111, 115, 116]⟩]
abbrev i_parts_in : Nat := 0
abbrev i_add_free : Nat := 1
abbrev i_free_variables : Nat := 2
abbrev i_check_closed : Nat := 3
abbrev i_Renamer_init : Nat := 4
abbrev i_Renamer_renamed : Nat := 5
abbrev i_tidy : Nat := 6
abbrev i__law_draws : Nat := 7
abbrev i__law_take : Nat := 8
abbrev i__law_inner : Nat := 9
abbrev i__law_atom : Nat := 10
abbrev i__law_statement : Nat := 11
abbrev i__law_closed : Nat := 12
abbrev i__law_free : Nat := 13
abbrev i__law_tidy_from : Nat := 14
abbrev i__law_tidy : Nat := 15
abbrev i__law_outcome : Nat := 16
abbrev i_law : Nat := 17
/-- parts_in -/
abbrev s_parts_in : Stmt := top 5
def N_parts_in : List Str := ["statement", "part"]
def b_parts_in (g : Nat → FF) : FS := (fRet (fZ (fLc [1] (fIt (fSl (fV 0) (fP1 (fC (.int 1))) fP0)) (fGn 1) (fB (fIsi "tuple" (fV 1))) (fV 1))))
/-- add_free -/
abbrev s_add_free : Stmt := top 6
def N_add_free : List Str := ["statement", "bound", "found", "part"]
def b_add_free (g : Nat → FF) : FS := (fIfS (fB (fO2 gEq (fO2 gIx (fV 0) (fC (.int 0))) (fC (.str z_var)))) (fIfS (fB (fO2 (gIn true) (fO2 gIx (fV 0) (fC (.int 1))) (fV 1))) (fDput 2 (fO2 gIx (fV 0) (fC (.int 1))) (fC (.bl true)))
  fNx)
  (fIfS (fB (fO1 (gInG false k_BINDERS) (fO2 gIx (fV 0) (fC (.int 0))))) (fExpr (fCall (g i_add_free) [2] [none, none, some 2] (fA1 (fO2 gIx (fV 0) (fC (.int 2))) (fA1 (fZ (fO2 gAdd (fV 1) (fZ (fLst (fA1 (fO2 gIx (fV 0) (fC (.int 1))) fA0))))) (fA1 (fM 2) fA0)))))
  (fFor (fIt (fCall (g i_parts_in) [] [none] (fA1 (fV 0) fA0))) (fGn 3)
  (fExpr (fCall (g i_add_free) [2] [none, none, some 2] (fA1 (fV 3) (fA1 (fV 1) (fA1 (fM 2) fA0))))))))
/-- free_variables -/
abbrev s_free_variables : Stmt := top 7
def N_free_variables : List Str := ["statement", "found"]
def b_free_variables (g : Nat → FF) : FS := (fSeq (fSet 1 fD0)
  (fSeq (fExpr (fCall (g i_add_free) [2] [none, none, some 1] (fA1 (fV 0) (fA1 (fZ (fLst fA0)) (fA1 (fM 1) fA0)))))
  (fRet (fZ (fCB gSortedD (fA1 (fV 1) fA0))))))
/-- check_closed -/
abbrev s_check_closed : Stmt := top 8
def N_check_closed : List Str := ["statement"]
def b_check_closed (g : Nat → FF) : FS := (fIfS (fB (fO2 gGt (fCB gLen (fA1 (fCall (g i_free_variables) [] [none] (fA1 (fV 0) fA0)) fA0)) (fC (.int 0)))) (fRaise "NotClosed")
  fNx)
/-- Renamer.__init__ -/
abbrev s_Renamer_init : Stmt := inClass (top 9) 0
def N_Renamer_init : List Str := ["self"]
def b_Renamer_init (g : Nat → FF) : FS := (fSfSet "Renamer" "count" 0 (fC (.int 0)))
/-- Renamer.renamed -/
abbrev s_Renamer_renamed : Stmt := inClass (top 9) 1
def N_Renamer_renamed : List Str := ["self", "statement", "names", "kind", "number", "inner", "found", "part"]
def b_Renamer_renamed (g : Nat → FF) : FS := (fSeq (fSet 3 (fO2 gIx (fV 1) (fC (.int 0))))
  (fSeq (fIfS (fB (fO2 gEq (fV 3) (fC (.str z_var)))) (fRet (fTup (fA1 (fC (.str z_var)) (fA1 (fO2 gDget (fV 2) (fO2 gIx (fV 1) (fC (.int 1)))) fA0))))
  fNx)
  (fSeq (fIfS (fB (fO1 (gInG false k_BINDERS) (fV 3))) (fSeq (fSet 4 (fSf "Renamer" "count" 0))
  (fSeq (fSfAug "Renamer" "count" 0 gAddI (fC (.int 1)))
  (fSeq (fSet 5 (fCB gDict (fA1 (fV 2) fA0)))
  (fSeq (fDput 5 (fO2 gIx (fV 1) (fC (.int 1))) (fV 4))
  (fRet (fTup (fA1 (fV 3) (fA1 (fV 4) (fA1 (fMeth "Renamer" "renamed" (g i_Renamer_renamed) [0] 0 [none, none] (fA1 (fO2 gIx (fV 1) (fC (.int 2))) (fA1 (fV 5) fA0))) fA0)))))))))
  fNx)
  (fSeq (fSet 6 (fLst (fA1 (fV 3) fA0)))
  (fSeq (fFor (fIt (fSl (fV 1) (fP1 (fC (.int 1))) fP0)) (fGn 7)
  (fIfS (fB (fIsi "tuple" (fV 7))) (fExpr (fApp 6 (fMeth "Renamer" "renamed" (g i_Renamer_renamed) [0] 0 [none, none] (fA1 (fV 7) (fA1 (fV 2) fA0)))))
  (fExpr (fApp 6 (fV 7)))))
  (fRet (fCB gTuple (fA1 (fV 6) fA0))))))))
/-- tidy -/
abbrev s_tidy : Stmt := top 10
def N_tidy : List Str := ["statement"]
def b_tidy (g : Nat → FF) : FS := (fSeq (fExpr (fCall (g i_check_closed) [] [none] (fA1 (fV 0) fA0)))
  (fRet (fMethE "Renamer" "renamed" (g i_Renamer_renamed) [0] [none, none] (fMake "Renamer" (g i_Renamer_init) fA0) (fA1 (fV 0) (fA1 (fZ fD0) fA0)))))
/-- _law_draws -/
abbrev s__law_draws : Stmt := top 12
def N__law_draws : List Str := ["_law_script", "_law_count", "_law_cells", "_law_found", "_law_mixed", "_law_k", "_law_j", "_law_cell", "_law_again"]
def b__law_draws (g : Nat → FF) : FS := (fSeq (fSet 2 (fCB gList (fA1 (fV 0) fA0)))
  (fSeq (fIfS (fB (fO2 gEq (fPk (fCB gLen (fA1 (fV 2) fA0))) (fC (.int 0)))) (fSet 2 (fLst (fA1 (fC (.int 7)) fA0)))
  fNx)
  (fSeq (fSet 3 (fLst fA0))
  (fSeq (fSet 4 (fC (.int 12345)))
  (fSeq (fFor (fR1 (fA1 (fV 1) fA0)) (fGn 5)
  (fSeq (fSet 6 (fO2 gMod (fV 5) (fPk (fCB gLen (fA1 (fV 2) fA0)))))
  (fSeq (fSet 7 (fPk (fO2 gIx (fV 2) (fV 6))))
  (fSeq (fSet 4 (fO2 gMod (fCB gInt (fA1 (fO2 gAdd (fO2 gAdd (fO2 gAdd (fO2 gMul (fV 4) (fC (.int 48271))) (fO2 gMul (fO2 gMod (fCB gInt (fA1 (fV 7) fA0)) (fC (.int 1000003))) (fC (.int 69621)))) (fO2 gMul (fV 5) (fC (.int 7919)))) (fC (.int 11))) fA0)) (fC (.int 2147483647))))
  (fSeq (fSet 8 (fO2 gMod (fCB gInt (fA1 (fO2 gAdd (fO2 gAdd (fO2 gMul (fV 4) (fV 4)) (fO2 gMul (fC (.int 31)) (fV 4))) (fV 5)) fA0)) (fC (.int 1000003))))
  (fIfS (fB (fO2 gGe (fV 7) (fO2 gPow (fC (.int 10)) (fC (.int 18))))) (fSeq (fExpr (fApp 3 (fO2 gMod (fCB gInt (fA1 (fV 7) fA0)) (fC (.int 1000)))))
  (fSetL 2 (fV 6) (fO2 gDiv (fV 7) (fC (.int 1000)))))
  (fExpr (fApp 3 (fO2 gMod (fCB gInt (fA1 (fV 8) fA0)) (fC (.int 1000)))))))))))
  (fSeq (fExpr (fRev 3))
  (fRet (fM 3))))))))
/-- _law_take -/
abbrev s__law_take : Stmt := top 13
def N__law_take : List Str := ["_law_draws_here", "_law_limit"]
def b__law_take (g : Nat → FF) : FS := (fSeq (fIfS (fB (fO2 gEq (fPk (fCB gLen (fA1 (fV 0) fA0))) (fC (.int 0)))) (fRet (fC (.int 0)))
  fNx)
  (fRet (fO2 gMod (fCB gInt (fA1 (fPop 0) fA0)) (fV 1))))
/-- _law_inner -/
abbrev s__law_inner : Stmt := top 14
def N__law_inner : List Str := ["_law_statement_here", "_law_part"]
def b__law_inner (g : Nat → FF) : FS := (fRet (fZ (fLc [1] (fIt (fSl (fV 0) (fP1 (fC (.int 1))) fP0)) (fGn 1) (fB (fIsi "tuple" (fV 1))) (fV 1))))
/-- _law_atom -/
abbrev s__law_atom : Stmt := top 15
def N__law_atom : List Str := ["_law_draws_here", "_law_ready", "_law_kind"]
def b__law_atom (g : Nat → FF) : FS := (fSeq (fSet 2 (fCall (g i__law_take) [0] [some 0, none] (fA1 (fM 0) (fA1 (fC (.int 8)) fA0))))
  (fSeq (fIfS (fAnd (fB (fO2 gGt (fCB gLen (fA1 (fV 1) fA0)) (fC (.int 0)))) (fB (fO2 gLt (fV 2) (fC (.int 5))))) (fRet (fTup (fA1 (fC (.str z_var)) (fA1 (fO2 gIx (fV 1) (fCall (g i__law_take) [0] [some 0, none] (fA1 (fM 0) (fA1 (fCB gLen (fA1 (fV 1) fA0)) fA0)))) fA0))))
  fNx)
  (fSeq (fIfS (fB (fO2 gEq (fV 2) (fC (.int 5)))) (fRet (fO2 gIx (fZ (fLst (fA1 (fTup (fA1 (fC (.str z_true)) fA0)) (fA1 (fTup (fA1 (fC (.str z_false)) fA0)) fA0)))) (fCall (g i__law_take) [0] [some 0, none] (fA1 (fM 0) (fA1 (fC (.int 2)) fA0)))))
  fNx)
  (fRet (fTup (fA1 (fO2 gIx (fZ (fLst (fA1 (fC (.str z_has)) (fA1 (fC (.str z_lacks)) fA0)))) (fCall (g i__law_take) [0] [some 0, none] (fA1 (fM 0) (fA1 (fC (.int 2)) fA0)))) (fA1 (fCall (g i__law_take) [0] [some 0, none] (fA1 (fM 0) (fA1 (fC (.int 2)) fA0))) fA0)))))))
/-- _law_statement -/
abbrev s__law_statement : Stmt := top 16
def N__law_statement : List Str := ["_law_draws_here", "_law_depth", "_law_waiting", "_law_ready", "_law_loose", "_law_kind", "_law_first", "_law_label", "_law_variable", "_law_later", "_law_other", "_law_usable"]
def b__law_statement (g : Nat → FF) : FS := (fSeq (fSet 5 (fCall (g i__law_take) [0] [some 0, none] (fA1 (fM 0) (fA1 (fC (.int 12)) fA0))))
  (fSeq (fIfS (fOr (fB (fO2 gEq (fV 1) (fC (.int 0)))) (fB (fO2 gEq (fV 5) (fC (.int 0))))) (fRet (fCall (g i__law_atom) [0] [some 0, none] (fA1 (fM 0) (fA1 (fV 3) fA0))))
  fNx)
  (fSeq (fIfS (fB (fO2 gLt (fV 5) (fC (.int 5)))) (fSeq (fSet 6 (fCall (g i__law_statement) [0] [some 0, none, none, none, none] (fA1 (fM 0) (fA1 (fO2 gSub (fV 1) (fC (.int 1))) (fA1 (fV 2) (fA1 (fV 3) (fA1 (fV 4) fA0)))))))
  (fRet (fTup (fA1 (fO2 gIx (fZ (fLst (fA1 (fC (.str z_and)) (fA1 (fC (.str z_or)) fA0)))) (fCB gInt (fA1 (fO2 gGt (fV 5) (fC (.int 2))) fA0))) (fA1 (fV 6) (fA1 (fCall (g i__law_statement) [0] [some 0, none, none, none, none] (fA1 (fM 0) (fA1 (fO2 gSub (fV 1) (fC (.int 1))) (fA1 (fV 2) (fA1 (fV 3) (fA1 (fV 4) fA0)))))) fA0))))))
  fNx)
  (fSeq (fIfS (fB (fO2 gLt (fV 5) (fC (.int 8)))) (fSeq (fSet 7 (fO2 gDiv (fCall (g i__law_take) [0] [some 0, none] (fA1 (fM 0) (fA1 (fC (.int 3)) fA0))) (fC (.int 2))))
  (fRet (fTup (fA1 (fO2 gIx (fZ (fLst (fA1 (fC (.str z_some)) (fA1 (fC (.str z_all)) fA0)))) (fCall (g i__law_take) [0] [some 0, none] (fA1 (fM 0) (fA1 (fC (.int 2)) fA0)))) (fA1 (fV 7) (fA1 (fCall (g i__law_statement) [0] [some 0, none, none, none, none] (fA1 (fM 0) (fA1 (fO2 gSub (fV 1) (fC (.int 1))) (fA1 (fZ (fLst fA0)) (fA1 (fZ (fO2 gAdd (fV 3) (fV 2))) (fA1 (fV 4) fA0)))))) fA0))))))
  fNx)
  (fSeq (fSet 8 (fO2 gIx (fZ (fLst (fA1 (fC (.int 0)) (fA1 (fC (.int 1)) (fA1 (fC (.int 2)) (fA1 (fC (.int 7)) fA0)))))) (fCall (g i__law_take) [0] [some 0, none] (fA1 (fM 0) (fA1 (fC (.int 4)) fA0)))))
  (fSeq (fSet 9 (fLc [10] (fIt (fV 2)) (fGn 10) (fB (fO2 gNe (fV 10) (fV 8))) (fV 10)))
  (fSeq (fSet 11 (fLc [10] (fIt (fV 3)) (fGn 10) (fB (fO2 gNe (fV 10) (fV 8))) (fV 10)))
  (fSeq (fIfS (fAnd (fB (fV 4)) (fB (fO2 gEq (fCall (g i__law_take) [0] [some 0, none] (fA1 (fM 0) (fA1 (fC (.int 3)) fA0))) (fC (.int 0))))) (fSet 11 (fZ (fO2 gAdd (fV 11) (fZ (fLst (fA1 (fV 8) fA0))))))
  (fSet 9 (fZ (fO2 gAdd (fV 9) (fZ (fLst (fA1 (fV 8) fA0)))))))
  (fRet (fTup (fA1 (fO2 gIx (fZ (fLst (fA1 (fC (.str z_least)) (fA1 (fC (.str z_most)) fA0)))) (fCall (g i__law_take) [0] [some 0, none] (fA1 (fM 0) (fA1 (fC (.int 2)) fA0)))) (fA1 (fV 8) (fA1 (fCall (g i__law_statement) [0] [some 0, none, none, none, none] (fA1 (fM 0) (fA1 (fO2 gSub (fV 1) (fC (.int 1))) (fA1 (fV 9) (fA1 (fV 11) (fA1 (fV 4) fA0)))))) fA0)))))))))))))
/-- _law_closed -/
abbrev s__law_closed : Stmt := top 17
def N__law_closed : List Str := ["_law_draws_here", "_law_depth"]
def b__law_closed (g : Nat → FF) : FS := (fRet (fCall (g i__law_statement) [0] [some 0, none, none, none, none] (fA1 (fM 0) (fA1 (fV 1) (fA1 (fZ (fLst fA0)) (fA1 (fZ (fLst fA0)) (fA1 (fC (.bl true)) fA0)))))))
/-- _law_free -/
abbrev s__law_free : Stmt := top 18
def N__law_free : List Str := ["_law_statement_here", "_law_bound", "_law_found", "_law_part"]
def b__law_free (g : Nat → FF) : FS := (fSeq (fIfS (fB (fO2 gEq (fO2 gIx (fV 0) (fC (.int 0))) (fC (.str z_var)))) (fRet (fIf (fB (fO2 (gIn true) (fO2 gIx (fV 0) (fC (.int 1))) (fV 1))) (fZ (fLst (fA1 (fO2 gIx (fV 0) (fC (.int 1))) fA0))) (fZ (fLst fA0))))
  fNx)
  (fSeq (fIfS (fB (fO2 (gIn false) (fO2 gIx (fV 0) (fC (.int 0))) (fTup (fA1 (fC (.str z_least)) (fA1 (fC (.str z_most)) fA0))))) (fRet (fCall (g i__law_free) [] [none, none] (fA1 (fO2 gIx (fV 0) (fC (.int 2))) (fA1 (fZ (fO2 gAdd (fV 1) (fZ (fLst (fA1 (fO2 gIx (fV 0) (fC (.int 1))) fA0))))) fA0))))
  fNx)
  (fSeq (fSet 2 (fZ (fLst fA0)))
  (fSeq (fFor (fIt (fCall (g i__law_inner) [] [none] (fA1 (fV 0) fA0))) (fGn 3)
  (fSet 2 (fZ (fO2 gAdd (fV 2) (fCall (g i__law_free) [] [none, none] (fA1 (fV 3) (fA1 (fV 1) fA0)))))))
  (fRet (fV 2))))))
/-- _law_tidy_from -/
abbrev s__law_tidy_from : Stmt := top 19
def N__law_tidy_from : List Str := ["_law_statement_here", "_law_names", "_law_number", "_law_inner_here", "_law_name", "_law_scope", "_law_after", "_law_found", "_law_part"]
def b__law_tidy_from (g : Nat → FF) : FS := (fSeq (fIfS (fB (fO2 gEq (fO2 gIx (fV 0) (fC (.int 0))) (fC (.str z_var)))) (fRet (fTup (fA1 (fTup (fA1 (fC (.str z_var)) (fA1 (fO2 gDget (fV 1) (fO2 gIx (fV 0) (fC (.int 1)))) fA0))) (fA1 (fV 2) fA0))))
  fNx)
  (fSeq (fIfS (fB (fO2 (gIn false) (fO2 gIx (fV 0) (fC (.int 0))) (fTup (fA1 (fC (.str z_least)) (fA1 (fC (.str z_most)) fA0))))) (fSeq (fSet 3 fD0)
  (fSeq (fForD 1 (fGn 4) (fDput 3 (fV 4) (fO2 gDget (fV 1) (fV 4))))
  (fSeq (fDput 3 (fO2 gIx (fV 0) (fC (.int 1))) (fV 2))
  (fSeq (fAsg (fGt 2 (fGs1 (fGn 5) (fGs1 (fGn 6) fGs0))) (fCall (g i__law_tidy_from) [] [none, none, none] (fA1 (fO2 gIx (fV 0) (fC (.int 2))) (fA1 (fV 3) (fA1 (fO2 gAdd (fV 2) (fC (.int 1))) fA0)))))
  (fRet (fTup (fA1 (fTup (fA1 (fO2 gIx (fV 0) (fC (.int 0))) (fA1 (fV 2) (fA1 (fV 5) fA0)))) (fA1 (fV 6) fA0))))))))
  fNx)
  (fSeq (fSet 7 (fLst fA0))
  (fSeq (fFor (fIt (fV 0)) (fGn 8)
  (fSeq (fIfS (fB (fIsi "tuple" (fV 8))) (fAsg (fGt 2 (fGs1 (fGn 8) (fGs1 (fGn 2) fGs0))) (fCall (g i__law_tidy_from) [] [none, none, none] (fA1 (fV 8) (fA1 (fV 1) (fA1 (fV 2) fA0)))))
  fNx)
  (fExpr (fApp 7 (fV 8)))))
  (fRet (fTup (fA1 (fCB gTuple (fA1 (fV 7) fA0)) (fA1 (fV 2) fA0))))))))
/-- _law_tidy -/
abbrev s__law_tidy : Stmt := top 20
def N__law_tidy : List Str := ["_law_statement_here"]
def b__law_tidy (g : Nat → FF) : FS := (fRet (fO2 gIx (fCall (g i__law_tidy_from) [] [none, none, none] (fA1 (fV 0) (fA1 (fZ fD0) (fA1 (fC (.int 0)) fA0)))) (fC (.int 0))))
/-- _law_outcome -/
abbrev s__law_outcome : Stmt := top 21
def N__law_outcome : List Str := ["_law_statement_here", "e"]
def b__law_outcome (g : Nat → FF) : FS := (fSeq (fTryAs (fun c => if c = ("NotClosed" : Str) then some true else none) 1 (fRet (fCall (g i_tidy) [] [none] (fA1 (fV 0) fA0))) (fun _ => fIfS (fun env => .ok (true, env)) (fRet (fC .non)) fNx))
  (fRet (fC (.int 0))))
/-- law -/
abbrev s_law : Stmt := top 22
def N_law : List Str := ["_law_script", "_law_draws_here", "_law_statement_here", "_law_k", "_law_free_here", "_law_found"]
def b_law (g : Nat → FF) : FS := (fSeq (fSet 1 (fCall (g i__law_draws) [] [none, none] (fA1 (fV 0) (fA1 (fC (.int 300)) fA0))))
  (fSeq (fSet 2 (fCall (g i__law_closed) [0] [some 1, none] (fA1 (fM 1) (fA1 (fC (.int 4)) fA0))))
  (fSeq (fIfS (fB (fO2 gEq (fCall (g i__law_take) [0] [some 1, none] (fA1 (fM 1) (fA1 (fC (.int 2)) fA0))) (fC (.int 0)))) (fFor (fR1 (fA1 (fCall (g i__law_take) [0] [some 1, none] (fA1 (fM 1) (fA1 (fC (.int 4)) fA0))) fA0)) (fGn 3)
  (fIfS (fB (fO2 (gIn false) (fO2 gIx (fV 2) (fC (.int 0))) (fTup (fA1 (fC (.str z_and)) (fA1 (fC (.str z_or)) fA0))))) (fSet 2 (fTup (fA1 (fO2 gIx (fV 2) (fC (.int 0))) (fA1 (fTup (fA1 (fC (.str z_var)) (fA1 (fCall (g i__law_take) [0] [some 1, none] (fA1 (fM 1) (fA1 (fC (.int 3)) fA0))) fA0))) (fA1 (fO2 gIx (fV 2) (fC (.int 2))) fA0)))))
  (fIfS (fB (fO2 (gIn false) (fO2 gIx (fV 2) (fC (.int 0))) (fTup (fA1 (fC (.str z_least)) (fA1 (fC (.str z_most)) (fA1 (fC (.str z_some)) (fA1 (fC (.str z_all)) fA0))))))) (fSet 2 (fTup (fA1 (fO2 gIx (fV 2) (fC (.int 0))) (fA1 (fO2 gIx (fV 2) (fC (.int 1))) (fA1 (fTup (fA1 (fC (.str z_or)) (fA1 (fO2 gIx (fV 2) (fC (.int 2))) (fA1 (fTup (fA1 (fC (.str z_var)) (fA1 (fCall (g i__law_take) [0] [some 1, none] (fA1 (fM 1) (fA1 (fC (.int 3)) fA0))) fA0))) fA0)))) fA0)))))
  fNx)))
  fNx)
  (fSeq (fSet 4 (fZ (fCB gSrtS (fA1 (fCall (g i__law_free) [] [none, none] (fA1 (fV 2) (fA1 (fZ (fLst fA0)) fA0))) fA0))))
  (fSeq (fIfS (fB (fO2 gNe (fCall (g i_free_variables) [] [none] (fA1 (fV 2) fA0)) (fV 4))) (fRet (fC (.bl false)))
  fNx)
  (fSeq (fSet 5 (fCall (g i__law_outcome) [] [none] (fA1 (fV 2) fA0)))
  (fSeq (fIfS (fB (fO2 gGt (fCB gLen (fA1 (fV 4) fA0)) (fC (.int 0)))) (fRet (fO2 (gIs false) (fV 5) (fC .non)))
  fNx)
  (fRet (fAndV (fO2 gEq (fV 5) (fCall (g i__law_tidy) [] [none] (fA1 (fV 2) fA0))) (fO2 gEq (fCall (g i_tidy) [] [none] (fA1 (fV 5) fA0)) (fV 5)))))))))))
/-- the program by calls left -/
def prog : Nat → Nat → FF
  | 0, _ => fun _ => .stuck
  | n + 1, i => match i with
    | 0 => fn 2 [] (b_parts_in (prog n))
    | 1 => fn 4 [2] (b_add_free (prog n))
    | 2 => fn 2 [] (b_free_variables (prog n))
    | 3 => fn 1 [] (b_check_closed (prog n))
    | 4 => fn 1 [0] (b_Renamer_init (prog n))
    | 5 => fn 8 [0] (b_Renamer_renamed (prog n))
    | 6 => fn 1 [] (b_tidy (prog n))
    | 7 => fn 9 [] (b__law_draws (prog n))
    | 8 => fn 2 [0] (b__law_take (prog n))
    | 9 => fn 2 [] (b__law_inner (prog n))
    | 10 => fn 3 [0] (b__law_atom (prog n))
    | 11 => fn 12 [0] (b__law_statement (prog n))
    | 12 => fn 2 [0] (b__law_closed (prog n))
    | 13 => fn 4 [] (b__law_free (prog n))
    | 14 => fn 9 [] (b__law_tidy_from (prog n))
    | 15 => fn 1 [] (b__law_tidy (prog n))
    | 16 => fn 2 [] (b__law_outcome (prog n))
    | 17 => fn 6 [] (b_law (prog n))
    | _ => fun _ => .stuck
theorem p_parts_in (n : Nat) : prog (n + 1) i_parts_in = fn 2 [] (b_parts_in (prog n)) := rfl
theorem p_add_free (n : Nat) : prog (n + 1) i_add_free = fn 4 [2] (b_add_free (prog n)) := rfl
theorem p_free_variables (n : Nat) : prog (n + 1) i_free_variables = fn 2 [] (b_free_variables (prog n)) := rfl
theorem p_check_closed (n : Nat) : prog (n + 1) i_check_closed = fn 1 [] (b_check_closed (prog n)) := rfl
theorem p_Renamer_init (n : Nat) : prog (n + 1) i_Renamer_init = fn 1 [0] (b_Renamer_init (prog n)) := rfl
theorem p_Renamer_renamed (n : Nat) : prog (n + 1) i_Renamer_renamed = fn 8 [0] (b_Renamer_renamed (prog n)) := rfl
theorem p_tidy (n : Nat) : prog (n + 1) i_tidy = fn 1 [] (b_tidy (prog n)) := rfl
theorem p__law_draws (n : Nat) : prog (n + 1) i__law_draws = fn 9 [] (b__law_draws (prog n)) := rfl
theorem p__law_take (n : Nat) : prog (n + 1) i__law_take = fn 2 [0] (b__law_take (prog n)) := rfl
theorem p__law_inner (n : Nat) : prog (n + 1) i__law_inner = fn 2 [] (b__law_inner (prog n)) := rfl
theorem p__law_atom (n : Nat) : prog (n + 1) i__law_atom = fn 3 [0] (b__law_atom (prog n)) := rfl
theorem p__law_statement (n : Nat) : prog (n + 1) i__law_statement = fn 12 [0] (b__law_statement (prog n)) := rfl
theorem p__law_closed (n : Nat) : prog (n + 1) i__law_closed = fn 2 [0] (b__law_closed (prog n)) := rfl
theorem p__law_free (n : Nat) : prog (n + 1) i__law_free = fn 4 [] (b__law_free (prog n)) := rfl
theorem p__law_tidy_from (n : Nat) : prog (n + 1) i__law_tidy_from = fn 9 [] (b__law_tidy_from (prog n)) := rfl
theorem p__law_tidy (n : Nat) : prog (n + 1) i__law_tidy = fn 1 [] (b__law_tidy (prog n)) := rfl
theorem p__law_outcome (n : Nat) : prog (n + 1) i__law_outcome = fn 2 [] (b__law_outcome (prog n)) := rfl
theorem p_law (n : Nat) : prog (n + 1) i_law = fn 6 [] (b_law (prog n)) := rfl
end L01

/-! # LM 3: worlds, what a statement says of them, opposites -/
namespace Ev
open PySem L2
structure Wd where
  facts : List (List Int)
  steps : List (Int × Int × Int)
namespace Wd
def n (W : Wd) : Nat := W.facts.length
/-- 0 .. n - 1 -/
def R (n : Nat) : List Int := (List.range n).map fun (i : Nat) => (i : Int)
def bh (W : Wd) (i l : Int) : List Int := (W.steps.filter fun t => decide (t.1 = i) && decide (t.2.1 = l)).map fun t => t.2.2
def fc (W : Wd) (i : Int) : List Int := W.facts.getD i.toNat []
def getL : List (Int × List Int) → Int → List Int
  | [], _ => []
  | (k, c) :: l, v => if k = v then c else getL l v
def putL (nm : List (Int × List Int)) (v : Int) (c : List Int) : List (Int × List Int) := if nm.any (fun kv => decide (kv.1 = v)) = true then nm.map (fun kv => if kv.1 = v then (kv.1, c) else kv) else nm ++ [(v, c)]
def turns (f : List Int → List Int) : Nat → List Int → List Int
  | 0, now => now
  | k + 1, now => turns f k (f now)
def val (W : Wd) : List (Int × List Int) → Fm → List Int
  | _, .leaf .tr => R W.n
  | _, .leaf .fa => []
  | _, .leaf (.has f) => (R W.n).filter fun i => decide (f ∈ W.fc i)
  | _, .leaf (.lacks f) => (R W.n).filter fun i => !decide (f ∈ W.fc i)
  | S, .var v => getL S v
  | S, .bin o a b => (R W.n).filter fun i => if o = true then decide (i ∈ val W S b) || decide (i ∈ val W S a) else decide (i ∈ val W S b) && decide (i ∈ val W S a)
  | S, .mod o l a => (R W.n).filter fun i => if o = true then decide ((((W.bh i l).filter fun k => !decide (k ∈ val W S a)).length : Int) = 0) else decide ((0 : Int) < (((W.bh i l).filter fun k => decide (k ∈ val W S a)).length : Int))
  | S, .fix o v a => turns (fun now => val W (putL S v now) a) (W.n + 1) (if o = true then R W.n else [])
def compl (n : Nat) (l : List Int) : List Int := (R n).filter fun i => !decide (i ∈ l)
def cS (n : Nat) (S : List (Int × List Int)) : List (Int × List Int) := S.map fun kv => (kv.1, compl n kv.2)
theorem compl_filter {n : Nat} {p : Int → Bool} : compl n ((R n).filter p) = (R n).filter fun i => !p i := by
  unfold compl
  apply List.filter_congr
  intro i hi
  congr 1
  by_cases h : p i = true
  · simp [hi, h]
  · simp [h]
theorem compl_R (n : Nat) : compl n (R n) = [] := by
  unfold compl
  rw [List.filter_eq_nil_iff]
  intro i hi
  simp [hi]
theorem compl_nil (n : Nat) : compl n [] = R n := by
  unfold compl
  rw [List.filter_eq_self]
  intro i hi
  simp
theorem mem_compl {n : Nat} {l : List Int} {i : Int} (h : i ∈ R n) : decide (i ∈ compl n l) = !decide (i ∈ l) := by
  unfold compl
  by_cases q : i ∈ l
  · simp [q]
  · simp [q, h]
theorem getL_cS {n : Nat} : ∀ {S : List (Int × List Int)} {v : Int}, v ∈ S.map (·.1) → getL (cS n S) v = compl n (getL S v)
  | [], v, h => nomatch h
  | (k, c) :: l, v, h => by
    show (if k = v then compl n c else getL (cS n l) v) = compl n (if k = v then c else getL l v)
    by_cases e : k = v
    · rw [if_pos e, if_pos e]
    · rw [if_neg e, if_neg e]
      refine getL_cS ?_
      rcases List.mem_cons.mp h with z | z
      · exact absurd z.symm e
      · exact z
theorem putL_cS {n : Nat} {S : List (Int × List Int)} {v : Int} {c : List Int} : putL (cS n S) v (compl n c) = cS n (putL S v c) := by
  have e : ((cS n S).any (fun kv => decide (kv.1 = v))) = S.any (fun kv => decide (kv.1 = v)) := by
    unfold cS
    rw [List.any_map]
    rfl
  unfold putL
  rw [e]
  split
  · unfold cS
    rw [List.map_map, List.map_map]
    apply List.map_congr_left
    intro kv _
    show (if kv.1 = v then (kv.1, compl n c) else (kv.1, compl n kv.2)) = (fun kv : Int × List Int => (kv.1, compl n kv.2)) (if kv.1 = v then (kv.1, c) else kv)
    split <;> rfl
  · unfold cS
    rw [List.map_append]
    rfl
theorem keys_putL {S : List (Int × List Int)} {v : Int} {c : List Int} {u : Int} (h : u ∈ S.map (·.1) ∨ u = v) : u ∈ (putL S v c).map (·.1) := by
  unfold putL
  split
  · rename_i q
    have e : (S.map fun kv => if kv.1 = v then (kv.1, c) else kv).map (·.1) = S.map (·.1) := by
      rw [List.map_map]
      apply List.map_congr_left
      intro kv _
      show (if kv.1 = v then (kv.1, c) else kv).1 = kv.1
      split <;> rfl
    rw [e]
    rcases h with h | h
    · exact h
    · subst h
      simpa using q
  · rw [List.map_append]
    rcases h with h | h
    · exact List.mem_append_left _ h
    · subst h
      exact List.mem_append_right _ (by simp)
end Wd
def Lf.du : Lf → Lf
  | .tr => .fa
  | .fa => .tr
  | .has f => .lacks f
  | .lacks f => .has f
namespace Fm
def du : Fm → Fm
  | .leaf k => .leaf (Lf.du k)
  | .var v => .var v
  | .bin o a b => .bin (!o) (du a) (du b)
  | .mod o l a => .mod (!o) l (du a)
  | .fix o v a => .fix (!o) v (du a)
end Fm
open Wd in
/-- what the opposite says -/
theorem val_du {W : Wd} (hs : ∀ t ∈ W.steps, t.2.2 ∈ R W.n) : ∀ (s : Fm) (S : List (Int × List Int)), Fm.fin (S.map (·.1)) s → val W (cS W.n S) (Fm.du s) = compl W.n (val W S s)
  | .leaf .tr, S, _ => by
    show [] = compl W.n (R W.n)
    unfold compl
    symm
    rw [List.filter_eq_nil_iff]
    intro i hi
    simp [hi]
  | .leaf .fa, S, _ => by
    show R W.n = compl W.n []
    unfold compl
    symm
    rw [List.filter_eq_self]
    intro i hi
    simp
  | .leaf (.has f), S, _ => by
    show (R W.n).filter (fun i => !decide (f ∈ W.fc i)) = compl W.n ((R W.n).filter fun i => decide (f ∈ W.fc i))
    rw [compl_filter]
  | .leaf (.lacks f), S, _ => by
    show (R W.n).filter (fun i => decide (f ∈ W.fc i)) = compl W.n ((R W.n).filter fun i => !decide (f ∈ W.fc i))
    rw [compl_filter]
    simp
  | .var v, S, h => getL_cS h
  | .bin o a b, S, h => by
    have i1 := val_du hs a S h.1
    have i2 := val_du hs b S h.2
    show (R W.n).filter (fun i => if (!o) = true then decide (i ∈ val W (cS W.n S) (Fm.du b)) || decide (i ∈ val W (cS W.n S) (Fm.du a)) else decide (i ∈ val W (cS W.n S) (Fm.du b)) && decide (i ∈ val W (cS W.n S) (Fm.du a))) = compl W.n ((R W.n).filter _)
    rw [compl_filter, i1, i2]
    apply List.filter_congr
    intro i hi
    rw [mem_compl hi, mem_compl hi]
    cases o <;> simp
  | .mod o l a, S, h => by
    have i1 := val_du hs a S h
    show (R W.n).filter (fun i => if (!o) = true then decide ((((W.bh i l).filter fun k => !decide (k ∈ val W (cS W.n S) (Fm.du a))).length : Int) = 0) else decide ((0 : Int) < (((W.bh i l).filter fun k => decide (k ∈ val W (cS W.n S) (Fm.du a))).length : Int))) = compl W.n ((R W.n).filter _)
    rw [compl_filter, i1]
    apply List.filter_congr
    intro i hi
    have hb : ∀ k ∈ W.bh i l, k ∈ R W.n := fun k hk => by
      unfold Wd.bh at hk
      obtain ⟨t, ht, rfl⟩ := List.mem_map.mp hk
      exact hs t (List.mem_filter.mp ht).1
    have f1 : ((W.bh i l).filter fun k => !decide (k ∈ compl W.n (val W S a))) = (W.bh i l).filter fun k => decide (k ∈ val W S a) := by
      apply List.filter_congr
      intro k hk
      rw [mem_compl (hb k hk), Bool.not_not]
    have f2 : ((W.bh i l).filter fun k => decide (k ∈ compl W.n (val W S a))) = (W.bh i l).filter fun k => !decide (k ∈ val W S a) := by
      apply List.filter_congr
      intro k hk
      rw [mem_compl (hb k hk)]
    rw [f1, f2]
    cases o
    · simp only [Bool.not_false, if_true, Bool.false_eq_true, if_false, ← decide_not]
      apply decide_eq_decide.mpr
      omega
    · simp only [Bool.not_true, if_true, Bool.false_eq_true, if_false, ← decide_not]
      apply decide_eq_decide.mpr
      omega
  | .fix o v a, S, h => by
    have ht : ∀ (k : Nat) (now : List Int), turns (fun now => val W (putL (cS W.n S) v now) (Fm.du a)) k (compl W.n now) = compl W.n (turns (fun now => val W (putL S v now) a) k now) := by
      intro k
      induction k with
      | zero => intro now; rfl
      | succ k ih =>
        intro now
        have e := val_du hs a (putL S v now) (Fm.fin_mono (fun u hu => by
          rcases List.mem_append.mp hu with z | z
          · exact keys_putL (.inl z)
          · exact keys_putL (.inr (by simpa using z))) h)
        show turns _ k (val W (putL (cS W.n S) v (compl W.n now)) (Fm.du a)) = _
        rw [putL_cS, e, ih]
        rfl
    show turns _ (W.n + 1) (if (!o) = true then R W.n else []) = compl W.n (turns _ (W.n + 1) (if o = true then R W.n else []))
    rw [← ht]
    congr 1
    cases o
    · exact (compl_nil W.n).symm
    · exact (compl_R W.n).symm
end Ev

/-! # LM 4: deep equality, sizes, worlds as data -/
namespace Ev
open PySem L2
theorem ok_str {k : Str} (h : PyData.strOk k = true) : PyData.canLay0 (.str k) = true := by rw [PyData.canLay0]; exact h
theorem dp_two (k : Str) (h : PyData.strOk k = true) (x : PV) (d : PyData) (e : dp x = some d) (c : PyData.canLay0 d = true) (j : Nat) (hj : PyData.depth d ≤ j) :
    ∃ d, dp (.tup [.str k, x]) = some d ∧ PyData.canLay0 d = true ∧ PyData.depth d ≤ j + 1 := by
  refine ⟨.tuple [.str k, d], ?_, ?_, ?_⟩
  · simp [dp, dps, e]
  · simp [PyData.canLay0, PyData.canLayAll0, c, h]
  · simp [PyData.depth, PyData.depthAll, hj]
theorem dp_three (k : Str) (h : PyData.strOk k = true) (x y : PV) (d1 d2 : PyData) (e1 : dp x = some d1) (e2 : dp y = some d2) (c1 : PyData.canLay0 d1 = true) (c2 : PyData.canLay0 d2 = true) (j : Nat) (h1 : PyData.depth d1 ≤ j) (h2 : PyData.depth d2 ≤ j) :
    ∃ d, dp (.tup [.str k, x, y]) = some d ∧ PyData.canLay0 d = true ∧ PyData.depth d ≤ j + 1 := by
  refine ⟨.tuple [.str k, d1, d2], ?_, ?_, ?_⟩
  · simp [dp, dps, e1, e2]
  · simp [PyData.canLay0, PyData.canLayAll0, c1, c2, h]
  · simp [PyData.depth, PyData.depthAll]; omega
theorem dp_int (i : Int) : dp (.int i) = some (.int i) := rfl
theorem lay_int (i : Int) : PyData.canLay0 (.int i) = true := by rw [PyData.canLay0]
theorem dep_int (i : Int) (j : Nat) : PyData.depth (.int i) ≤ j := by rw [PyData.depth]; omega
theorem dp_enc : ∀ s : Fm, ∃ d, dp s.enc = some d ∧ PyData.canLay0 d = true ∧ PyData.depth d ≤ s.ht + 1
  | .leaf .tr => ⟨.tuple [.str Lf.tr.kd], rfl, by simp [PyData.canLay0, PyData.canLayAll0]; decide +kernel, by simp [PyData.depth, PyData.depthAll]⟩
  | .leaf .fa => ⟨.tuple [.str Lf.fa.kd], rfl, by simp [PyData.canLay0, PyData.canLayAll0]; decide +kernel, by simp [PyData.depth, PyData.depthAll]⟩
  | .leaf (.has f) => dp_two _ (show PyData.strOk (Lf.has 0).kd = true by decide +kernel) _ _ (dp_int f) (lay_int f) 0 (dep_int f 0)
  | .leaf (.lacks f) => dp_two _ (show PyData.strOk (Lf.lacks 0).kd = true by decide +kernel) _ _ (dp_int f) (lay_int f) 0 (dep_int f 0)
  | .var v => dp_two _ (by decide +kernel) _ _ (dp_int v) (lay_int v) 0 (dep_int v 0)
  | .bin o a b => by
    obtain ⟨d1, e1, c1, h1⟩ := dp_enc a
    obtain ⟨d2, e2, c2, h2⟩ := dp_enc b
    exact dp_three (sBin o) (by cases o <;> decide +kernel) _ _ d1 d2 e1 e2 c1 c2 (max a.ht b.ht + 1) (by omega) (by omega)
  | .mod o l a => by
    obtain ⟨d2, e2, c2, h2⟩ := dp_enc a
    exact dp_three (sMod o) (by cases o <;> decide +kernel) _ _ _ d2 (dp_int l) e2 (lay_int l) c2 (a.ht + 1) (dep_int l _) (by omega)
  | .fix o v a => by
    obtain ⟨d2, e2, c2, h2⟩ := dp_enc a
    exact dp_three (sFix o) (by cases o <;> decide +kernel) _ _ _ d2 (dp_int v) e2 (lay_int v) c2 (a.ht + 1) (dep_int v _) (by omega)
/-- deep data: equal to itself -/
def deepOk (p : PV) : Prop := ∃ d, dp p = some d ∧ SeqAt.shaped d = true
theorem deep_of {p : PV} {d : PyData} (e : dp p = some d) (c : PyData.canLay0 d = true) (h : PyData.depth d ≤ 64) : deepOk p := ⟨d, e, by unfold SeqAt.shaped; rw [c, decide_eq_true h]; rfl⟩
theorem eqD_self {p : PV} (h : deepOk p) : eqD p p = some true := by
  obtain ⟨d, e, s⟩ := h
  unfold eqD
  rw [e]
  have c : PyData.canLay0 d = true := by
    unfold SeqAt.shaped at s
    rw [Bool.and_eq_true] at s
    exact s.1
  simp only [s, and_self, if_true, SeqAt.eqv_refl d c]
theorem gEq_self {p : PV} (h : deepOk p) : gEq p p = .ok (.val (.bl true)) := by
  unfold gEq
  split
  · simp [ov]
  · simp [ov]
  · rw [eqD_self h]; rfl
theorem gNe_self {p : PV} (h : deepOk p) : gNe p p = .ok (.val (.bl false)) := by
  unfold gNe
  split
  · simp [ov]
  · simp [ov]
  · rw [eqD_self h]; rfl
theorem deep_enc {s : Fm} (h : s.ht ≤ 60) : deepOk s.enc := by
  obtain ⟨d, e, c, q⟩ := dp_enc s
  exact deep_of e c (by omega)
theorem dps_all : ∀ {l : List PV} {j : Nat}, (∀ p ∈ l, ∃ d, dp p = some d ∧ PyData.canLay0 d = true ∧ PyData.depth d ≤ j) → ∃ ds, dps l = some ds ∧ PyData.canLayAll0 ds = true ∧ PyData.depthAll ds ≤ j
  | [], j, _ => ⟨[], rfl, by rw [PyData.canLayAll0], by rw [PyData.depthAll]; omega⟩
  | p :: l, j, h => by
    obtain ⟨d, e, c, q⟩ := h p List.mem_cons_self
    obtain ⟨ds, e2, c2, q2⟩ := dps_all fun x hx => h x (List.mem_cons_of_mem _ hx)
    refine ⟨d :: ds, ?_, ?_, ?_⟩
    · simp [dps, e, e2]
    · simp [PyData.canLayAll0, c, c2]
    · rw [PyData.depthAll]; omega
/-- data to a depth -/
def dpt (j : Nat) (p : PV) : Prop := ∃ d, dp p = some d ∧ PyData.canLay0 d = true ∧ PyData.depth d ≤ j
theorem dpt_int {i : Int} {j : Nat} : dpt j (.int i) := ⟨_, dp_int i, lay_int i, dep_int i j⟩
theorem dpt_str {k : Str} {j : Nat} (h : PyData.strOk k = true) : dpt j (.str k) := ⟨.str k, rfl, ok_str h, by rw [PyData.depth]; omega⟩
theorem dpt_bl {b : Bool} {j : Nat} : dpt j (.bl b) := ⟨.bool b, rfl, by rw [PyData.canLay0], by rw [PyData.depth]; omega⟩
theorem dpt_lst {l : List PV} {j : Nat} (h : ∀ p ∈ l, dpt j p) : dpt (j + 1) (.lst l) := by
  obtain ⟨ds, e, c, q⟩ := dps_all h
  refine ⟨.list ds, ?_, ?_, ?_⟩
  · simp [dp, e]
  · rw [PyData.canLay0]; exact c
  · rw [PyData.depth]; omega
theorem dpt_tup {l : List PV} {j : Nat} (h : ∀ p ∈ l, dpt j p) : dpt (j + 1) (.tup l) := by
  obtain ⟨ds, e, c, q⟩ := dps_all h
  refine ⟨.tuple ds, ?_, ?_, ?_⟩
  · simp [dp, e]
  · rw [PyData.canLay0]; exact c
  · rw [PyData.depth]; omega
theorem dpt_enc {s : Fm} : dpt (s.ht + 1) s.enc := dp_enc s
theorem dpt_up {p : PV} {i j : Nat} (h : dpt i p) (q : i ≤ j) : dpt j p := by
  obtain ⟨d, e, c, r⟩ := h
  exact ⟨d, e, c, by omega⟩
theorem dpt_ints {l : List Int} : dpt 1 (.lst (l.map PV.int)) := dpt_lst fun p hp => by
  obtain ⟨i, _, rfl⟩ := List.mem_map.mp hp
  exact dpt_int
theorem deep_dpt {p : PV} {j : Nat} (h : dpt j p) (q : j ≤ 64) : deepOk p := by
  obtain ⟨d, e, c, r⟩ := h
  exact deep_of e c (by omega)
theorem deep_ints {l : List Int} : deepOk (.lst (l.map PV.int)) := deep_dpt dpt_ints (by omega)
namespace Fm
def sz : Fm → Nat
  | .leaf _ => 1
  | .var _ => 1
  | .bin _ a b => 1 + (sz a + sz b)
  | .mod _ _ a => 1 + sz a
  | .fix _ _ a => 1 + sz a
/-- a number behind the kind -/
def num : Fm → Bool
  | .leaf .tr => false
  | .leaf .fa => false
  | .leaf _ => true
  | .var _ => true
  | .bin _ _ _ => false
  | .mod _ _ _ => true
  | .fix _ _ _ => true
theorem du_du : ∀ s : Fm, du (du s) = s
  | .leaf k => by cases k <;> rfl
  | .var v => rfl
  | .bin o a b => by simp only [du, du_du a, du_du b, Bool.not_not]
  | .mod o l a => by simp only [du, du_du a, Bool.not_not]
  | .fix o v a => by simp only [du, du_du a, Bool.not_not]
theorem ht_du : ∀ s : Fm, (du s).ht = s.ht
  | .leaf k => rfl
  | .var v => rfl
  | .bin o a b => by simp only [du, Fm.ht, ht_du a, ht_du b]
  | .mod o l a => by simp only [du, Fm.ht, ht_du a]
  | .fix o v a => by simp only [du, Fm.ht, ht_du a]
theorem nv_du : ∀ s : Fm, (du s).nv = s.nv
  | .leaf k => rfl
  | .var v => rfl
  | .bin o a b => by simp only [du, Fm.nv, nv_du a, nv_du b]
  | .mod o l a => by simp only [du, Fm.nv, nv_du a]
  | .fix o v a => by simp only [du, Fm.nv, nv_du a]
theorem sz_du : ∀ s : Fm, sz (du s) = sz s
  | .leaf k => rfl
  | .var v => rfl
  | .bin o a b => by simp only [du, sz, sz_du a, sz_du b]
  | .mod o l a => by simp only [du, sz, sz_du a]
  | .fix o v a => by simp only [du, sz, sz_du a]
theorem fin_du : ∀ (s : Fm) (b : List Int), Fm.fin b s → Fm.fin b (du s)
  | .leaf k, _, _ => trivial
  | .var v, _, h => h
  | .bin o x y, b, h => ⟨fin_du x b h.1, fin_du y b h.2⟩
  | .mod o l x, b, h => fin_du x b h
  | .fix o v x, b, h => fin_du x (b ++ [v]) h
theorem nn_du : ∀ s : Fm, nn s → nn (du s)
  | .leaf .tr, h => h
  | .leaf .fa, h => h
  | .leaf (.has f), h => h
  | .leaf (.lacks f), h => h
  | .var v, h => h
  | .bin o x y, h => ⟨nn_du x h.1, nn_du y h.2⟩
  | .mod o l x, h => ⟨h.1, nn_du x h.2⟩
  | .fix o v x, h => ⟨h.1, nn_du x h.2⟩
theorem rest_parts (s : Fm) : (if s.num = true then s.rest.drop 1 else s.rest) = s.parts.map enc := by
  cases s with
  | leaf k => cases k <;> rfl
  | var v => rfl
  | bin o a b => rfl
  | mod o l a => rfl
  | fix o v a => rfl
theorem ht_parts {s p : Fm} (h : p ∈ s.parts) : p.ht < s.ht := by
  cases s with
  | leaf k => cases h
  | var v => cases h
  | bin o a b =>
    have e : p = a ∨ p = b := by simpa [parts] using h
    have q : (Fm.bin o a b).ht = max a.ht b.ht + 1 := rfl
    rcases e with rfl | rfl <;> omega
  | mod o l a =>
    have e : p = a := by simpa [parts] using h
    subst e
    exact Nat.lt_succ_self _
  | fix o v a =>
    have e : p = a := by simpa [parts] using h
    subst e
    exact Nat.lt_succ_self _
theorem nn_parts {s p : Fm} (hn : nn s) (h : p ∈ s.parts) : nn p := by
  cases s with
  | leaf k => cases h
  | var v => cases h
  | bin o a b =>
    have e : p = a ∨ p = b := by simpa [parts] using h
    rcases e with rfl | rfl
    · exact hn.1
    · exact hn.2
  | mod o l a =>
    have e : p = a := by simpa [parts] using h
    subst e
    exact hn.2
  | fix o v a =>
    have e : p = a := by simpa [parts] using h
    subst e
    exact hn.2
theorem num_at {s : Fm} (hn : nn s) (h : s.num = true) : ∃ x : Int, 0 ≤ x ∧ gIx s.enc (.int 1) = .ok (.val (.int x)) := by
  cases s with
  | leaf k =>
    cases k with
    | tr => cases h
    | fa => cases h
    | has f => exact ⟨f, hn.1, rfl⟩
    | lacks f => exact ⟨f, hn.1, rfl⟩
  | var v => exact ⟨v, hn.1, rfl⟩
  | bin o a b => cases h
  | mod o l a => exact ⟨l, hn.1.1, rfl⟩
  | fix o v a => exact ⟨v, hn.1.1, rfl⟩
theorem parts_le (s : Fm) : (s.parts.map enc).length ≤ 10000000 := by
  cases s with
  | leaf k => simp [parts]
  | _ => simp [parts]
end Fm
theorem gSl_2 {x y : PV} {r : List PV} : gSl (.tup (x :: y :: r)) (some 2) none = .ok (.val (.tup r)) := by
  show Res.ok (OV.val (.tup (cutP (x :: y :: r) (some 2) none))) = _
  have : cutP (x :: y :: r) (some 2) none = r := by
    unfold cutP
    have e1 : HT.sIx (x :: y :: r).length 0 (some 2) = 2 := by
      unfold HT.sIx
      simp
    have e2 : HT.sIx (x :: y :: r).length (x :: y :: r).length none = (x :: y :: r).length := rfl
    rw [e1, e2, List.drop_succ_cons, List.drop_succ_cons, List.drop_zero, List.length_cons, List.length_cons]
    rw [show r.length + 1 + 1 - 2 = r.length by omega, List.take_length]
  rw [this]
theorem gSl_enc2 {s : Fm} (h : s.num = true) : gSl s.enc (some 2) none = .ok (.val (.tup (s.rest.drop 1))) := by
  cases s with
  | leaf k =>
    cases k with
    | tr => cases h
    | fa => cases h
    | has f => exact gSl_2
    | lacks f => exact gSl_2
  | var v => exact gSl_2
  | bin o a b => cases h
  | mod o l a => exact gSl_2
  | fix o v a => exact gSl_2
theorem gSum_0 : gSum [.lst []] = .ok (.val (.int 0)) := rfl
theorem gSum_1 {a : Int} : gSum [.lst [.int a]] = .ok (.val (.int a)) := by
  show Res.ok (OV.val (.int [a].sum)) = _
  simp
theorem gSum_2 {a b : Int} : gSum [.lst [.int a, .int b]] = .ok (.val (.int (a + b))) := by
  show Res.ok (OV.val (.int [a, b].sum)) = _
  simp
end Ev

namespace L01
open PySem L2 Ev
def liP (b : List Int) : PV := .lst (b.map PV.int)
def lsF (l : List Fm) : PV := .lst (l.map Fm.enc)
theorem t_var (s : Fm) : gEq (.str s.kd) (.str z_var) = .ok (.val (.bl s.isVar)) := by
  cases s with
  | leaf k => cases k <;> rfl
  | var v => rfl
  | bin o a b => cases o <;> rfl
  | mod o l a => cases o <;> rfl
  | fix o v a => cases o <;> rfl
theorem t_B (s : Fm) : gInG false k_BINDERS (.str s.kd) = .ok (.val (.bl s.isFix)) := by
  cases s with
  | leaf k => cases k <;> rfl
  | var v => rfl
  | bin o a b => cases o <;> rfl
  | mod o l a => cases o <;> rfl
  | fix o v a => cases o <;> rfl
theorem t_LM (s : Fm) : gIn false (.str s.kd) (.tup [.str z_least, .str z_most]) = .ok (.val (.bl s.isFix)) := by
  cases s with
  | leaf k => cases k <;> rfl
  | var v => rfl
  | bin o a b => cases o <;> rfl
  | mod o l a => cases o <;> rfl
  | fix o v a => cases o <;> rfl
theorem gIx_t0 (x : PV) (r : List PV) : gIx (.tup (x :: r)) (.int 0) = .ok (.val x) := by
  have e : ixN (r.length + 1) 0 = some 0 := by
    unfold ixN
    rw [if_pos (by omega), if_pos (by omega)]
    rfl
  show (match atI (x :: r) 0 with | some p => ov p | none => .stuck) = _
  unfold atI
  rw [List.length_cons, e]
  rfl
theorem gIx_0 (s : Fm) : gIx s.enc (.int 0) = .ok (.val (.str s.kd)) := by rw [Fm.enc_eq, gIx_t0]
theorem gIx_v1 (v : Int) : gIx (Fm.enc (.var v)) (.int 1) = .ok (.val (.int v)) := rfl
theorem gIx_f1 (o : Bool) (v : Int) (a : Fm) : gIx (Fm.enc (.fix o v a)) (.int 1) = .ok (.val (.int v)) := rfl
theorem gIx_f2 (o : Bool) (v : Int) (a : Fm) : gIx (Fm.enc (.fix o v a)) (.int 2) = .ok (.val a.enc) := rfl
/-! ### parts -/
def isTup : PV → Bool
  | .tup _ => true
  | _ => false
theorem rest_ok (s : Fm) : ∀ p ∈ s.rest, isT "tuple" p = .ok (.val (.bl (isTup p))) := by
  intro p hp
  cases s with
  | leaf k =>
    cases k with
    | tr => cases hp
    | fa => cases hp
    | has f =>
      have e : p = .int f := by simpa [Fm.rest, Lf.args] using hp
      subst e; rfl
    | lacks f =>
      have e : p = .int f := by simpa [Fm.rest, Lf.args] using hp
      subst e; rfl
  | var v =>
    have e : p = .int v := by simpa [Fm.rest] using hp
    subst e; rfl
  | bin o a b =>
    have e : p = a.enc ∨ p = b.enc := by simpa [Fm.rest] using hp
    rcases e with e | e
    · subst e; rw [Fm.enc_eq]; rfl
    · subst e; rw [Fm.enc_eq]; rfl
  | mod o l a =>
    have e : p = .int l ∨ p = a.enc := by simpa [Fm.rest] using hp
    rcases e with e | e
    · subst e; rfl
    · subst e; rw [Fm.enc_eq]; rfl
  | fix o l a =>
    have e : p = .int l ∨ p = a.enc := by simpa [Fm.rest] using hp
    rcases e with e | e
    · subst e; rfl
    · subst e; rw [Fm.enc_eq]; rfl
theorem isTup_int (i : Int) : isTup (.int i) = false := rfl
theorem isTup_enc (s : Fm) : isTup s.enc = true := by rw [Fm.enc_eq]; rfl
theorem rest_filter (s : Fm) : s.rest.filter isTup = s.parts.map Fm.enc := by
  cases s with
  | leaf k => cases k <;> rfl
  | var v => rfl
  | bin o a b => simp [Fm.rest, Fm.parts, isTup_enc]
  | mod o l a => simp [Fm.rest, Fm.parts, isTup_enc, isTup_int]
  | fix o v a => simp [Fm.rest, Fm.parts, isTup_enc, isTup_int]
theorem rest_len (s : Fm) : s.rest.length ≤ 10000000 := by
  cases s with
  | leaf k => cases k <;> simp [Fm.rest, Lf.args]
  | _ => simp [Fm.rest]
theorem lc_parts (s : Fm) (e0 : OV) : fLcL [1] (fGn 1) (fB (fIsi "tuple" (fV 1))) (fV 1) s.rest [] [some e0, none] = .ok ((s.parts.map Fm.enc).map .val, [some e0, none]) := by
  rw [lcL_eq (cnd := isTup) (el := .val) fun p hp => ⟨[some e0, some (.val p)], [some e0, some (.val p)], rfl, ?_, fun _ => rfl, fun _ => ⟨[some e0, some (.val p)], rfl, rfl⟩⟩]
  · rw [rest_filter]
    rfl
  · simp only [fSeq_e, kSeq_nx, kSeq_rt, kSeq_bk, kSeq_ct, kSeq_exc, fIfS_e, kIfS_t, kIfS_f, fNx_e, fBk_e, fCt_e, fRetN_e, fRet_e, kRet_o, fExpr_e, kExpr_o, kExpr_x, fSet_e, kSet_o, fC_e, fV_e, kV_val, kV_lst, kV_dct, kV_ins, fM_e, kM_o, fZ_e, kZ_o, kG_o, ov_e, fO2_e, kO2_o, kO2'_o, fO1_e, kO1_o, fIsi_e, fB_e, kB_o, fNot_e, kNot_o, fAnd_e, kAnd_t, kAnd_f, fOr_e, kOr_t, kOr_f, fAndV_e, kAndV_t, kAndV_f, fOrV_e, kOrV_t, kOrV_f, fNotV_e, kNotV_o, fIf_e, kIf_t, kIf_f, fA0_e, fA1_e, kA1_o, kA1'_o, vls_nil, vls_cons, kVls_o, fTup_e, kTup_o, kTup'_o, fLst_e, kLst_o, fCB_e, kCB_o, kCB'_o, frE_nil, frE_c, fPk_e, kPk_int, kPk_bl, kPk_str, kPk_non, fz_val, fz_lst, fz_dct, fz_ins, fzs_nil, fzs_cons, fCall_e, kCall_o, kCall'_o, kCall'_x, kPut_o, putB_nil, putB_cons, kB1_s, kB1_n, kB2_n, outs_nil, outs_cons, kOuts_o, kCons_o, kOut_o, fn_e, kFn_nx, kFn_rt, kFn_x, fFor_e, kFor_o, kFor_x, loop_nil, loop_cons, kLoop_o, kLoop_nx, kLoop_ct, kLoop_bk, kLoop_rt, fIt_e, kIt_l, kIt_t, fR1_e, kR1_o, fR2_e, kR2_o, fR3_e, kR3_o, fGn_e, fGt_e, fGs1_e, kGs_o, fGs0_e, fAsg_e, kAsg_o, kAsg'_o, isL_e, kL_l, fApp_e, kApp_o, kApp'_o, fExt_e, kExt_o, kExt'_o, fPop_e, kPop_l, kPop'_o, fRev_e, kRev_l, fP0_e, fP1_e, kP1_i, fSl_e, kSl_o, kSl1_o, kSl2_o, fSetL_e, kSL_o, kSL1_o, fLc_e, kLc_o, kLc'_o, wipe_nil, wipe_cons, lcl_nil, lcl_cons, kLc1_o, kLc2_t, kLc2_f, kLc3_o, fYes_e, fD0_e, fDput_e, kDp_o, kDp1_o, kO_int, kDp2_o, isD_e, kD_d, fForD_e, noXF_e, kFD_d, noX_o, fSf_e, kSf_1, isI_e, kI_0, fMeth_e, kMe_o, kMe1_o, kMe2_o, fRaise_e, kRet_x, kSet_x, kIfS_x, kLoop_x, kCall_x, kB_x, kNot_x, kO2_x, fTry_e, kTry_x, kTry1_t, kTry1_f, kTry_o, deadE_nil, deadE_v, deadE_n, deadE_l, deadE_d, deadE_i, fzKs_nil, fT0_e, fz_dtt, kV_dtt, fPkT_e, kPkT_o, fDictO_e, kDictO_d, isTT_e, kTT_d, fTput_e, kTp_o, kTp1_o, kTp2_o, sV_bl, sV_int, kT_2, kT_3, fSfSet_e, kSfS_o, kSfS'_o, kWh_t, kWh_f, kWh'_nx, fD1_e, kD1_o, kD1'_o, eq_self, Int.reduceLT, Int.reduceLE, Int.reduceEq, Int.reduceNeg, Bool.false_eq_true, if_false, Option.map_some, Option.map_none, List.map_cons, List.map_nil, List.length_cons, List.length_nil, List.cons_append, List.nil_append, Nat.reduceAdd, Nat.reduceSub, List.replicate_succ, List.replicate_zero, List.append_nil, List.getElem?_cons_zero, List.getElem?_cons_succ, List.set_cons_zero, List.set_cons_succ, if_true, reduceIte, decide_true, decide_false, Bool.not_true, Bool.not_false, rest_ok s p hp]
theorem parts_in_eq (n : Nat) (s : Fm) : prog (n + 1) i_parts_in [.val s.enc] = .ok (.val (lsF s.parts), []) := by
  rw [p_parts_in, Fm.enc_eq]
  simp only [b_parts_in, fSeq_e, kSeq_nx, kSeq_rt, kSeq_bk, kSeq_ct, kSeq_exc, fIfS_e, kIfS_t, kIfS_f, fNx_e, fBk_e, fCt_e, fRetN_e, fRet_e, kRet_o, fExpr_e, kExpr_o, kExpr_x, fSet_e, kSet_o, fC_e, fV_e, kV_val, kV_lst, kV_dct, kV_ins, fM_e, kM_o, fZ_e, kZ_o, kG_o, ov_e, fO2_e, kO2_o, kO2'_o, fO1_e, kO1_o, fIsi_e, fB_e, kB_o, fNot_e, kNot_o, fAnd_e, kAnd_t, kAnd_f, fOr_e, kOr_t, kOr_f, fAndV_e, kAndV_t, kAndV_f, fOrV_e, kOrV_t, kOrV_f, fNotV_e, kNotV_o, fIf_e, kIf_t, kIf_f, fA0_e, fA1_e, kA1_o, kA1'_o, vls_nil, vls_cons, kVls_o, fTup_e, kTup_o, kTup'_o, fLst_e, kLst_o, fCB_e, kCB_o, kCB'_o, frE_nil, frE_c, fPk_e, kPk_int, kPk_bl, kPk_str, kPk_non, fz_val, fz_lst, fz_dct, fz_ins, fzs_nil, fzs_cons, fCall_e, kCall_o, kCall'_o, kCall'_x, kPut_o, putB_nil, putB_cons, kB1_s, kB1_n, kB2_n, outs_nil, outs_cons, kOuts_o, kCons_o, kOut_o, fn_e, kFn_nx, kFn_rt, kFn_x, fFor_e, kFor_o, kFor_x, loop_nil, loop_cons, kLoop_o, kLoop_nx, kLoop_ct, kLoop_bk, kLoop_rt, fIt_e, kIt_l, kIt_t, fR1_e, kR1_o, fR2_e, kR2_o, fR3_e, kR3_o, fGn_e, fGt_e, fGs1_e, kGs_o, fGs0_e, fAsg_e, kAsg_o, kAsg'_o, isL_e, kL_l, fApp_e, kApp_o, kApp'_o, fExt_e, kExt_o, kExt'_o, fPop_e, kPop_l, kPop'_o, fRev_e, kRev_l, fP0_e, fP1_e, kP1_i, fSl_e, kSl_o, kSl1_o, kSl2_o, fSetL_e, kSL_o, kSL1_o, fLc_e, kLc_o, kLc'_o, wipe_nil, wipe_cons, lcl_nil, lcl_cons, kLc1_o, kLc2_t, kLc2_f, kLc3_o, fYes_e, fD0_e, fDput_e, kDp_o, kDp1_o, kO_int, kDp2_o, isD_e, kD_d, fForD_e, noXF_e, kFD_d, noX_o, fSf_e, kSf_1, isI_e, kI_0, fMeth_e, kMe_o, kMe1_o, kMe2_o, fRaise_e, kRet_x, kSet_x, kIfS_x, kLoop_x, kCall_x, kB_x, kNot_x, kO2_x, fTry_e, kTry_x, kTry1_t, kTry1_f, kTry_o, deadE_nil, deadE_v, deadE_n, deadE_l, deadE_d, deadE_i, fzKs_nil, fT0_e, fz_dtt, kV_dtt, fPkT_e, kPkT_o, fDictO_e, kDictO_d, isTT_e, kTT_d, fTput_e, kTp_o, kTp1_o, kTp2_o, sV_bl, sV_int, kT_2, kT_3, fSfSet_e, kSfS_o, kSfS'_o, kWh_t, kWh_f, kWh'_nx, fD1_e, kD1_o, kD1'_o, eq_self, Int.reduceLT, Int.reduceLE, Int.reduceEq, Int.reduceNeg, Bool.false_eq_true, if_false, Option.map_some, Option.map_none, List.map_cons, List.map_nil, List.length_cons, List.length_nil, List.cons_append, List.nil_append, Nat.reduceAdd, Nat.reduceSub, List.replicate_succ, List.replicate_zero, List.append_nil, List.getElem?_cons_zero, List.getElem?_cons_succ, List.set_cons_zero, List.set_cons_succ, if_true, reduceIte, decide_true, decide_false, Bool.not_true, Bool.not_false, gSl_1, rest_len s, lc_parts, fzs_vals, lsF]
theorem law_inner_eq (n : Nat) (s : Fm) : prog (n + 1) i__law_inner [.val s.enc] = .ok (.val (lsF s.parts), []) := by
  rw [p__law_inner, Fm.enc_eq]
  simp only [b__law_inner, fSeq_e, kSeq_nx, kSeq_rt, kSeq_bk, kSeq_ct, kSeq_exc, fIfS_e, kIfS_t, kIfS_f, fNx_e, fBk_e, fCt_e, fRetN_e, fRet_e, kRet_o, fExpr_e, kExpr_o, kExpr_x, fSet_e, kSet_o, fC_e, fV_e, kV_val, kV_lst, kV_dct, kV_ins, fM_e, kM_o, fZ_e, kZ_o, kG_o, ov_e, fO2_e, kO2_o, kO2'_o, fO1_e, kO1_o, fIsi_e, fB_e, kB_o, fNot_e, kNot_o, fAnd_e, kAnd_t, kAnd_f, fOr_e, kOr_t, kOr_f, fAndV_e, kAndV_t, kAndV_f, fOrV_e, kOrV_t, kOrV_f, fNotV_e, kNotV_o, fIf_e, kIf_t, kIf_f, fA0_e, fA1_e, kA1_o, kA1'_o, vls_nil, vls_cons, kVls_o, fTup_e, kTup_o, kTup'_o, fLst_e, kLst_o, fCB_e, kCB_o, kCB'_o, frE_nil, frE_c, fPk_e, kPk_int, kPk_bl, kPk_str, kPk_non, fz_val, fz_lst, fz_dct, fz_ins, fzs_nil, fzs_cons, fCall_e, kCall_o, kCall'_o, kCall'_x, kPut_o, putB_nil, putB_cons, kB1_s, kB1_n, kB2_n, outs_nil, outs_cons, kOuts_o, kCons_o, kOut_o, fn_e, kFn_nx, kFn_rt, kFn_x, fFor_e, kFor_o, kFor_x, loop_nil, loop_cons, kLoop_o, kLoop_nx, kLoop_ct, kLoop_bk, kLoop_rt, fIt_e, kIt_l, kIt_t, fR1_e, kR1_o, fR2_e, kR2_o, fR3_e, kR3_o, fGn_e, fGt_e, fGs1_e, kGs_o, fGs0_e, fAsg_e, kAsg_o, kAsg'_o, isL_e, kL_l, fApp_e, kApp_o, kApp'_o, fExt_e, kExt_o, kExt'_o, fPop_e, kPop_l, kPop'_o, fRev_e, kRev_l, fP0_e, fP1_e, kP1_i, fSl_e, kSl_o, kSl1_o, kSl2_o, fSetL_e, kSL_o, kSL1_o, fLc_e, kLc_o, kLc'_o, wipe_nil, wipe_cons, lcl_nil, lcl_cons, kLc1_o, kLc2_t, kLc2_f, kLc3_o, fYes_e, fD0_e, fDput_e, kDp_o, kDp1_o, kO_int, kDp2_o, isD_e, kD_d, fForD_e, noXF_e, kFD_d, noX_o, fSf_e, kSf_1, isI_e, kI_0, fMeth_e, kMe_o, kMe1_o, kMe2_o, fRaise_e, kRet_x, kSet_x, kIfS_x, kLoop_x, kCall_x, kB_x, kNot_x, kO2_x, fTry_e, kTry_x, kTry1_t, kTry1_f, kTry_o, deadE_nil, deadE_v, deadE_n, deadE_l, deadE_d, deadE_i, fzKs_nil, fT0_e, fz_dtt, kV_dtt, fPkT_e, kPkT_o, fDictO_e, kDictO_d, isTT_e, kTT_d, fTput_e, kTp_o, kTp1_o, kTp2_o, sV_bl, sV_int, kT_2, kT_3, fSfSet_e, kSfS_o, kSfS'_o, kWh_t, kWh_f, kWh'_nx, fD1_e, kD1_o, kD1'_o, eq_self, Int.reduceLT, Int.reduceLE, Int.reduceEq, Int.reduceNeg, Bool.false_eq_true, if_false, Option.map_some, Option.map_none, List.map_cons, List.map_nil, List.length_cons, List.length_nil, List.cons_append, List.nil_append, Nat.reduceAdd, Nat.reduceSub, List.replicate_succ, List.replicate_zero, List.append_nil, List.getElem?_cons_zero, List.getElem?_cons_succ, List.set_cons_zero, List.set_cons_succ, if_true, reduceIte, decide_true, decide_false, Bool.not_true, Bool.not_false, gSl_1, rest_len s, lc_parts, fzs_vals, lsF]

/-! ### free variables -/
theorem gAdd_li (b c : List Int) (h : b.length + c.length ≤ 10000000) : gAdd (.lst (b.map PV.int)) (.lst (c.map PV.int)) = .ok (.lst (((b ++ c).map PV.int).map .val)) := by
  rw [gAdd_ll (by rw [List.length_map, List.length_map]; exact h)]
  simp only [List.map_append]
theorem gAdd_l1 (b : List Int) (v : Int) (h : b.length + 1 ≤ 10000000) : gAdd (.lst (b.map PV.int)) (.lst [.int v]) = .ok (.lst (((b ++ [v]).map PV.int).map .val)) := gAdd_li b [v] h
theorem add_free_eq : ∀ (s : Fm) (n : Nat) (b ks : List Int), s.ht + 2 ≤ n → b.length + s.ht ≤ 1000 → ks.length + s.nv ≤ 1000 → prog n i_add_free [.val s.enc, .val (liP b), .dct (dT ks)] = .ok (.val .non, [.dct (dT (Fm.af b ks s))])
  | s, 0, b, ks, h, _, _ => by omega
  | .leaf k, n + 1, b, ks, h, hb, hk => by
    obtain ⟨m, rfl⟩ : ∃ m, n = m + 1 := ⟨n - 1, by omega⟩
    rw [p_add_free]
    simp only [b_add_free, fSeq_e, kSeq_nx, kSeq_rt, kSeq_bk, kSeq_ct, kSeq_exc, fIfS_e, kIfS_t, kIfS_f, fNx_e, fBk_e, fCt_e, fRetN_e, fRet_e, kRet_o, fExpr_e, kExpr_o, kExpr_x, fSet_e, kSet_o, fC_e, fV_e, kV_val, kV_lst, kV_dct, kV_ins, fM_e, kM_o, fZ_e, kZ_o, kG_o, ov_e, fO2_e, kO2_o, kO2'_o, fO1_e, kO1_o, fIsi_e, fB_e, kB_o, fNot_e, kNot_o, fAnd_e, kAnd_t, kAnd_f, fOr_e, kOr_t, kOr_f, fAndV_e, kAndV_t, kAndV_f, fOrV_e, kOrV_t, kOrV_f, fNotV_e, kNotV_o, fIf_e, kIf_t, kIf_f, fA0_e, fA1_e, kA1_o, kA1'_o, vls_nil, vls_cons, kVls_o, fTup_e, kTup_o, kTup'_o, fLst_e, kLst_o, fCB_e, kCB_o, kCB'_o, frE_nil, frE_c, fPk_e, kPk_int, kPk_bl, kPk_str, kPk_non, fz_val, fz_lst, fz_dct, fz_ins, fzs_nil, fzs_cons, fCall_e, kCall_o, kCall'_o, kCall'_x, kPut_o, putB_nil, putB_cons, kB1_s, kB1_n, kB2_n, outs_nil, outs_cons, kOuts_o, kCons_o, kOut_o, fn_e, kFn_nx, kFn_rt, kFn_x, fFor_e, kFor_o, kFor_x, loop_nil, loop_cons, kLoop_o, kLoop_nx, kLoop_ct, kLoop_bk, kLoop_rt, fIt_e, kIt_l, kIt_t, fR1_e, kR1_o, fR2_e, kR2_o, fR3_e, kR3_o, fGn_e, fGt_e, fGs1_e, kGs_o, fGs0_e, fAsg_e, kAsg_o, kAsg'_o, isL_e, kL_l, fApp_e, kApp_o, kApp'_o, fExt_e, kExt_o, kExt'_o, fPop_e, kPop_l, kPop'_o, fRev_e, kRev_l, fP0_e, fP1_e, kP1_i, fSl_e, kSl_o, kSl1_o, kSl2_o, fSetL_e, kSL_o, kSL1_o, fLc_e, kLc_o, kLc'_o, wipe_nil, wipe_cons, lcl_nil, lcl_cons, kLc1_o, kLc2_t, kLc2_f, kLc3_o, fYes_e, fD0_e, fDput_e, kDp_o, kDp1_o, kO_int, kDp2_o, isD_e, kD_d, fForD_e, noXF_e, kFD_d, noX_o, fSf_e, kSf_1, isI_e, kI_0, fMeth_e, kMe_o, kMe1_o, kMe2_o, fRaise_e, kRet_x, kSet_x, kIfS_x, kLoop_x, kCall_x, kB_x, kNot_x, kO2_x, fTry_e, kTry_x, kTry1_t, kTry1_f, kTry_o, deadE_nil, deadE_v, deadE_n, deadE_l, deadE_d, deadE_i, fzKs_nil, fT0_e, fz_dtt, kV_dtt, fPkT_e, kPkT_o, fDictO_e, kDictO_d, isTT_e, kTT_d, fTput_e, kTp_o, kTp1_o, kTp2_o, sV_bl, sV_int, kT_2, kT_3, fSfSet_e, kSfS_o, kSfS'_o, kWh_t, kWh_f, kWh'_nx, fD1_e, kD1_o, kD1'_o, eq_self, Int.reduceLT, Int.reduceLE, Int.reduceEq, Int.reduceNeg, Bool.false_eq_true, if_false, Option.map_some, Option.map_none, List.map_cons, List.map_nil, List.length_cons, List.length_nil, List.cons_append, List.nil_append, Nat.reduceAdd, Nat.reduceSub, List.replicate_succ, List.replicate_zero, List.append_nil, List.getElem?_cons_zero, List.getElem?_cons_succ, List.set_cons_zero, List.set_cons_succ, if_true, reduceIte, decide_true, decide_false, Bool.not_true, Bool.not_false, gIx_0, t_var, t_B, Fm.isVar, Fm.isFix, parts_in_eq, lsF, Fm.parts, Fm.af]
  | .var v, n + 1, b, ks, h, hb, hk => by
    have hk' : (dT ks).length < 10000000 := by
      unfold dT
      rw [List.length_map]
      have : (Fm.var v).nv = 1 := rfl
      omega
    rw [p_add_free]
    by_cases hv : v ∈ b
    · simp only [b_add_free, fSeq_e, kSeq_nx, kSeq_rt, kSeq_bk, kSeq_ct, kSeq_exc, fIfS_e, kIfS_t, kIfS_f, fNx_e, fBk_e, fCt_e, fRetN_e, fRet_e, kRet_o, fExpr_e, kExpr_o, kExpr_x, fSet_e, kSet_o, fC_e, fV_e, kV_val, kV_lst, kV_dct, kV_ins, fM_e, kM_o, fZ_e, kZ_o, kG_o, ov_e, fO2_e, kO2_o, kO2'_o, fO1_e, kO1_o, fIsi_e, fB_e, kB_o, fNot_e, kNot_o, fAnd_e, kAnd_t, kAnd_f, fOr_e, kOr_t, kOr_f, fAndV_e, kAndV_t, kAndV_f, fOrV_e, kOrV_t, kOrV_f, fNotV_e, kNotV_o, fIf_e, kIf_t, kIf_f, fA0_e, fA1_e, kA1_o, kA1'_o, vls_nil, vls_cons, kVls_o, fTup_e, kTup_o, kTup'_o, fLst_e, kLst_o, fCB_e, kCB_o, kCB'_o, frE_nil, frE_c, fPk_e, kPk_int, kPk_bl, kPk_str, kPk_non, fz_val, fz_lst, fz_dct, fz_ins, fzs_nil, fzs_cons, fCall_e, kCall_o, kCall'_o, kCall'_x, kPut_o, putB_nil, putB_cons, kB1_s, kB1_n, kB2_n, outs_nil, outs_cons, kOuts_o, kCons_o, kOut_o, fn_e, kFn_nx, kFn_rt, kFn_x, fFor_e, kFor_o, kFor_x, loop_nil, loop_cons, kLoop_o, kLoop_nx, kLoop_ct, kLoop_bk, kLoop_rt, fIt_e, kIt_l, kIt_t, fR1_e, kR1_o, fR2_e, kR2_o, fR3_e, kR3_o, fGn_e, fGt_e, fGs1_e, kGs_o, fGs0_e, fAsg_e, kAsg_o, kAsg'_o, isL_e, kL_l, fApp_e, kApp_o, kApp'_o, fExt_e, kExt_o, kExt'_o, fPop_e, kPop_l, kPop'_o, fRev_e, kRev_l, fP0_e, fP1_e, kP1_i, fSl_e, kSl_o, kSl1_o, kSl2_o, fSetL_e, kSL_o, kSL1_o, fLc_e, kLc_o, kLc'_o, wipe_nil, wipe_cons, lcl_nil, lcl_cons, kLc1_o, kLc2_t, kLc2_f, kLc3_o, fYes_e, fD0_e, fDput_e, kDp_o, kDp1_o, kO_int, kDp2_o, isD_e, kD_d, fForD_e, noXF_e, kFD_d, noX_o, fSf_e, kSf_1, isI_e, kI_0, fMeth_e, kMe_o, kMe1_o, kMe2_o, fRaise_e, kRet_x, kSet_x, kIfS_x, kLoop_x, kCall_x, kB_x, kNot_x, kO2_x, fTry_e, kTry_x, kTry1_t, kTry1_f, kTry_o, deadE_nil, deadE_v, deadE_n, deadE_l, deadE_d, deadE_i, fzKs_nil, fT0_e, fz_dtt, kV_dtt, fPkT_e, kPkT_o, fDictO_e, kDictO_d, isTT_e, kTT_d, fTput_e, kTp_o, kTp1_o, kTp2_o, sV_bl, sV_int, kT_2, kT_3, fSfSet_e, kSfS_o, kSfS'_o, kWh_t, kWh_f, kWh'_nx, fD1_e, kD1_o, kD1'_o, eq_self, Int.reduceLT, Int.reduceLE, Int.reduceEq, Int.reduceNeg, Bool.false_eq_true, if_false, Option.map_some, Option.map_none, List.map_cons, List.map_nil, List.length_cons, List.length_nil, List.cons_append, List.nil_append, Nat.reduceAdd, Nat.reduceSub, List.replicate_succ, List.replicate_zero, List.append_nil, List.getElem?_cons_zero, List.getElem?_cons_succ, List.set_cons_zero, List.set_cons_succ, if_true, reduceIte, decide_true, decide_false, Bool.not_true, Bool.not_false, gIx_0, t_var, t_B, Fm.isVar, Fm.isFix, gIx_v1, liP, gIn_ints, hv, Fm.af]
    · simp only [b_add_free, fSeq_e, kSeq_nx, kSeq_rt, kSeq_bk, kSeq_ct, kSeq_exc, fIfS_e, kIfS_t, kIfS_f, fNx_e, fBk_e, fCt_e, fRetN_e, fRet_e, kRet_o, fExpr_e, kExpr_o, kExpr_x, fSet_e, kSet_o, fC_e, fV_e, kV_val, kV_lst, kV_dct, kV_ins, fM_e, kM_o, fZ_e, kZ_o, kG_o, ov_e, fO2_e, kO2_o, kO2'_o, fO1_e, kO1_o, fIsi_e, fB_e, kB_o, fNot_e, kNot_o, fAnd_e, kAnd_t, kAnd_f, fOr_e, kOr_t, kOr_f, fAndV_e, kAndV_t, kAndV_f, fOrV_e, kOrV_t, kOrV_f, fNotV_e, kNotV_o, fIf_e, kIf_t, kIf_f, fA0_e, fA1_e, kA1_o, kA1'_o, vls_nil, vls_cons, kVls_o, fTup_e, kTup_o, kTup'_o, fLst_e, kLst_o, fCB_e, kCB_o, kCB'_o, frE_nil, frE_c, fPk_e, kPk_int, kPk_bl, kPk_str, kPk_non, fz_val, fz_lst, fz_dct, fz_ins, fzs_nil, fzs_cons, fCall_e, kCall_o, kCall'_o, kCall'_x, kPut_o, putB_nil, putB_cons, kB1_s, kB1_n, kB2_n, outs_nil, outs_cons, kOuts_o, kCons_o, kOut_o, fn_e, kFn_nx, kFn_rt, kFn_x, fFor_e, kFor_o, kFor_x, loop_nil, loop_cons, kLoop_o, kLoop_nx, kLoop_ct, kLoop_bk, kLoop_rt, fIt_e, kIt_l, kIt_t, fR1_e, kR1_o, fR2_e, kR2_o, fR3_e, kR3_o, fGn_e, fGt_e, fGs1_e, kGs_o, fGs0_e, fAsg_e, kAsg_o, kAsg'_o, isL_e, kL_l, fApp_e, kApp_o, kApp'_o, fExt_e, kExt_o, kExt'_o, fPop_e, kPop_l, kPop'_o, fRev_e, kRev_l, fP0_e, fP1_e, kP1_i, fSl_e, kSl_o, kSl1_o, kSl2_o, fSetL_e, kSL_o, kSL1_o, fLc_e, kLc_o, kLc'_o, wipe_nil, wipe_cons, lcl_nil, lcl_cons, kLc1_o, kLc2_t, kLc2_f, kLc3_o, fYes_e, fD0_e, fDput_e, kDp_o, kDp1_o, kO_int, kDp2_o, isD_e, kD_d, fForD_e, noXF_e, kFD_d, noX_o, fSf_e, kSf_1, isI_e, kI_0, fMeth_e, kMe_o, kMe1_o, kMe2_o, fRaise_e, kRet_x, kSet_x, kIfS_x, kLoop_x, kCall_x, kB_x, kNot_x, kO2_x, fTry_e, kTry_x, kTry1_t, kTry1_f, kTry_o, deadE_nil, deadE_v, deadE_n, deadE_l, deadE_d, deadE_i, fzKs_nil, fT0_e, fz_dtt, kV_dtt, fPkT_e, kPkT_o, fDictO_e, kDictO_d, isTT_e, kTT_d, fTput_e, kTp_o, kTp1_o, kTp2_o, sV_bl, sV_int, kT_2, kT_3, fSfSet_e, kSfS_o, kSfS'_o, kWh_t, kWh_f, kWh'_nx, fD1_e, kD1_o, kD1'_o, eq_self, Int.reduceLT, Int.reduceLE, Int.reduceEq, Int.reduceNeg, Bool.false_eq_true, if_false, Option.map_some, Option.map_none, List.map_cons, List.map_nil, List.length_cons, List.length_nil, List.cons_append, List.nil_append, Nat.reduceAdd, Nat.reduceSub, List.replicate_succ, List.replicate_zero, List.append_nil, List.getElem?_cons_zero, List.getElem?_cons_succ, List.set_cons_zero, List.set_cons_succ, if_true, reduceIte, decide_true, decide_false, Bool.not_true, Bool.not_false, gIx_0, t_var, t_B, Fm.isVar, Fm.isFix, gIx_v1, liP, gIn_ints, hv, Fm.af, hk', putO_T]
  | .bin o x y, n + 1, b, ks, h, hb, hk => by
    have e1 : (Fm.bin o x y).ht = max x.ht y.ht + 1 := rfl
    have e2 : (Fm.bin o x y).nv = x.nv + y.nv := rfl
    rw [e1] at h hb
    rw [e2] at hk
    obtain ⟨m, rfl⟩ : ∃ m, n = m + 1 := ⟨n - 1, by omega⟩
    have hl := Fm.len_af (s := x) (b := b) (ks := ks)
    have i1 := add_free_eq x (m + 1) b ks (by omega) (by omega) (by omega)
    have i2 := add_free_eq y (m + 1) b (Fm.af b ks x) (by omega) (by omega) (by omega)
    rw [p_add_free]
    simp only [b_add_free, fSeq_e, kSeq_nx, kSeq_rt, kSeq_bk, kSeq_ct, kSeq_exc, fIfS_e, kIfS_t, kIfS_f, fNx_e, fBk_e, fCt_e, fRetN_e, fRet_e, kRet_o, fExpr_e, kExpr_o, kExpr_x, fSet_e, kSet_o, fC_e, fV_e, kV_val, kV_lst, kV_dct, kV_ins, fM_e, kM_o, fZ_e, kZ_o, kG_o, ov_e, fO2_e, kO2_o, kO2'_o, fO1_e, kO1_o, fIsi_e, fB_e, kB_o, fNot_e, kNot_o, fAnd_e, kAnd_t, kAnd_f, fOr_e, kOr_t, kOr_f, fAndV_e, kAndV_t, kAndV_f, fOrV_e, kOrV_t, kOrV_f, fNotV_e, kNotV_o, fIf_e, kIf_t, kIf_f, fA0_e, fA1_e, kA1_o, kA1'_o, vls_nil, vls_cons, kVls_o, fTup_e, kTup_o, kTup'_o, fLst_e, kLst_o, fCB_e, kCB_o, kCB'_o, frE_nil, frE_c, fPk_e, kPk_int, kPk_bl, kPk_str, kPk_non, fz_val, fz_lst, fz_dct, fz_ins, fzs_nil, fzs_cons, fCall_e, kCall_o, kCall'_o, kCall'_x, kPut_o, putB_nil, putB_cons, kB1_s, kB1_n, kB2_n, outs_nil, outs_cons, kOuts_o, kCons_o, kOut_o, fn_e, kFn_nx, kFn_rt, kFn_x, fFor_e, kFor_o, kFor_x, loop_nil, loop_cons, kLoop_o, kLoop_nx, kLoop_ct, kLoop_bk, kLoop_rt, fIt_e, kIt_l, kIt_t, fR1_e, kR1_o, fR2_e, kR2_o, fR3_e, kR3_o, fGn_e, fGt_e, fGs1_e, kGs_o, fGs0_e, fAsg_e, kAsg_o, kAsg'_o, isL_e, kL_l, fApp_e, kApp_o, kApp'_o, fExt_e, kExt_o, kExt'_o, fPop_e, kPop_l, kPop'_o, fRev_e, kRev_l, fP0_e, fP1_e, kP1_i, fSl_e, kSl_o, kSl1_o, kSl2_o, fSetL_e, kSL_o, kSL1_o, fLc_e, kLc_o, kLc'_o, wipe_nil, wipe_cons, lcl_nil, lcl_cons, kLc1_o, kLc2_t, kLc2_f, kLc3_o, fYes_e, fD0_e, fDput_e, kDp_o, kDp1_o, kO_int, kDp2_o, isD_e, kD_d, fForD_e, noXF_e, kFD_d, noX_o, fSf_e, kSf_1, isI_e, kI_0, fMeth_e, kMe_o, kMe1_o, kMe2_o, fRaise_e, kRet_x, kSet_x, kIfS_x, kLoop_x, kCall_x, kB_x, kNot_x, kO2_x, fTry_e, kTry_x, kTry1_t, kTry1_f, kTry_o, deadE_nil, deadE_v, deadE_n, deadE_l, deadE_d, deadE_i, fzKs_nil, fT0_e, fz_dtt, kV_dtt, fPkT_e, kPkT_o, fDictO_e, kDictO_d, isTT_e, kTT_d, fTput_e, kTp_o, kTp1_o, kTp2_o, sV_bl, sV_int, kT_2, kT_3, fSfSet_e, kSfS_o, kSfS'_o, kWh_t, kWh_f, kWh'_nx, fD1_e, kD1_o, kD1'_o, eq_self, Int.reduceLT, Int.reduceLE, Int.reduceEq, Int.reduceNeg, Bool.false_eq_true, if_false, Option.map_some, Option.map_none, List.map_cons, List.map_nil, List.length_cons, List.length_nil, List.cons_append, List.nil_append, Nat.reduceAdd, Nat.reduceSub, List.replicate_succ, List.replicate_zero, List.append_nil, List.getElem?_cons_zero, List.getElem?_cons_succ, List.set_cons_zero, List.set_cons_succ, if_true, reduceIte, decide_true, decide_false, Bool.not_true, Bool.not_false, gIx_0, t_var, t_B, Fm.isVar, Fm.isFix, parts_in_eq, lsF, Fm.parts, Fm.af, i1, i2]
  | .mod o l x, n + 1, b, ks, h, hb, hk => by
    have e1 : (Fm.mod o l x).ht = x.ht + 1 := rfl
    have e2 : (Fm.mod o l x).nv = x.nv := rfl
    rw [e1] at h hb
    rw [e2] at hk
    obtain ⟨m, rfl⟩ : ∃ m, n = m + 1 := ⟨n - 1, by omega⟩
    have i1 := add_free_eq x (m + 1) b ks (by omega) (by omega) (by omega)
    rw [p_add_free]
    simp only [b_add_free, fSeq_e, kSeq_nx, kSeq_rt, kSeq_bk, kSeq_ct, kSeq_exc, fIfS_e, kIfS_t, kIfS_f, fNx_e, fBk_e, fCt_e, fRetN_e, fRet_e, kRet_o, fExpr_e, kExpr_o, kExpr_x, fSet_e, kSet_o, fC_e, fV_e, kV_val, kV_lst, kV_dct, kV_ins, fM_e, kM_o, fZ_e, kZ_o, kG_o, ov_e, fO2_e, kO2_o, kO2'_o, fO1_e, kO1_o, fIsi_e, fB_e, kB_o, fNot_e, kNot_o, fAnd_e, kAnd_t, kAnd_f, fOr_e, kOr_t, kOr_f, fAndV_e, kAndV_t, kAndV_f, fOrV_e, kOrV_t, kOrV_f, fNotV_e, kNotV_o, fIf_e, kIf_t, kIf_f, fA0_e, fA1_e, kA1_o, kA1'_o, vls_nil, vls_cons, kVls_o, fTup_e, kTup_o, kTup'_o, fLst_e, kLst_o, fCB_e, kCB_o, kCB'_o, frE_nil, frE_c, fPk_e, kPk_int, kPk_bl, kPk_str, kPk_non, fz_val, fz_lst, fz_dct, fz_ins, fzs_nil, fzs_cons, fCall_e, kCall_o, kCall'_o, kCall'_x, kPut_o, putB_nil, putB_cons, kB1_s, kB1_n, kB2_n, outs_nil, outs_cons, kOuts_o, kCons_o, kOut_o, fn_e, kFn_nx, kFn_rt, kFn_x, fFor_e, kFor_o, kFor_x, loop_nil, loop_cons, kLoop_o, kLoop_nx, kLoop_ct, kLoop_bk, kLoop_rt, fIt_e, kIt_l, kIt_t, fR1_e, kR1_o, fR2_e, kR2_o, fR3_e, kR3_o, fGn_e, fGt_e, fGs1_e, kGs_o, fGs0_e, fAsg_e, kAsg_o, kAsg'_o, isL_e, kL_l, fApp_e, kApp_o, kApp'_o, fExt_e, kExt_o, kExt'_o, fPop_e, kPop_l, kPop'_o, fRev_e, kRev_l, fP0_e, fP1_e, kP1_i, fSl_e, kSl_o, kSl1_o, kSl2_o, fSetL_e, kSL_o, kSL1_o, fLc_e, kLc_o, kLc'_o, wipe_nil, wipe_cons, lcl_nil, lcl_cons, kLc1_o, kLc2_t, kLc2_f, kLc3_o, fYes_e, fD0_e, fDput_e, kDp_o, kDp1_o, kO_int, kDp2_o, isD_e, kD_d, fForD_e, noXF_e, kFD_d, noX_o, fSf_e, kSf_1, isI_e, kI_0, fMeth_e, kMe_o, kMe1_o, kMe2_o, fRaise_e, kRet_x, kSet_x, kIfS_x, kLoop_x, kCall_x, kB_x, kNot_x, kO2_x, fTry_e, kTry_x, kTry1_t, kTry1_f, kTry_o, deadE_nil, deadE_v, deadE_n, deadE_l, deadE_d, deadE_i, fzKs_nil, fT0_e, fz_dtt, kV_dtt, fPkT_e, kPkT_o, fDictO_e, kDictO_d, isTT_e, kTT_d, fTput_e, kTp_o, kTp1_o, kTp2_o, sV_bl, sV_int, kT_2, kT_3, fSfSet_e, kSfS_o, kSfS'_o, kWh_t, kWh_f, kWh'_nx, fD1_e, kD1_o, kD1'_o, eq_self, Int.reduceLT, Int.reduceLE, Int.reduceEq, Int.reduceNeg, Bool.false_eq_true, if_false, Option.map_some, Option.map_none, List.map_cons, List.map_nil, List.length_cons, List.length_nil, List.cons_append, List.nil_append, Nat.reduceAdd, Nat.reduceSub, List.replicate_succ, List.replicate_zero, List.append_nil, List.getElem?_cons_zero, List.getElem?_cons_succ, List.set_cons_zero, List.set_cons_succ, if_true, reduceIte, decide_true, decide_false, Bool.not_true, Bool.not_false, gIx_0, t_var, t_B, Fm.isVar, Fm.isFix, parts_in_eq, lsF, Fm.parts, Fm.af, i1]
  | .fix o v x, n + 1, b, ks, h, hb, hk => by
    have e1 : (Fm.fix o v x).ht = x.ht + 1 := rfl
    have e2 : (Fm.fix o v x).nv = x.nv := rfl
    rw [e1] at h hb
    rw [e2] at hk
    have i1 := add_free_eq x n (b ++ [v]) ks (by omega) (by rw [List.length_append, List.length_singleton]; omega) (by omega)
    rw [p_add_free]
    unfold liP at i1 ⊢
    simp only [b_add_free, fSeq_e, kSeq_nx, kSeq_rt, kSeq_bk, kSeq_ct, kSeq_exc, fIfS_e, kIfS_t, kIfS_f, fNx_e, fBk_e, fCt_e, fRetN_e, fRet_e, kRet_o, fExpr_e, kExpr_o, kExpr_x, fSet_e, kSet_o, fC_e, fV_e, kV_val, kV_lst, kV_dct, kV_ins, fM_e, kM_o, fZ_e, kZ_o, kG_o, ov_e, fO2_e, kO2_o, kO2'_o, fO1_e, kO1_o, fIsi_e, fB_e, kB_o, fNot_e, kNot_o, fAnd_e, kAnd_t, kAnd_f, fOr_e, kOr_t, kOr_f, fAndV_e, kAndV_t, kAndV_f, fOrV_e, kOrV_t, kOrV_f, fNotV_e, kNotV_o, fIf_e, kIf_t, kIf_f, fA0_e, fA1_e, kA1_o, kA1'_o, vls_nil, vls_cons, kVls_o, fTup_e, kTup_o, kTup'_o, fLst_e, kLst_o, fCB_e, kCB_o, kCB'_o, frE_nil, frE_c, fPk_e, kPk_int, kPk_bl, kPk_str, kPk_non, fz_val, fz_lst, fz_dct, fz_ins, fzs_nil, fzs_cons, fCall_e, kCall_o, kCall'_o, kCall'_x, kPut_o, putB_nil, putB_cons, kB1_s, kB1_n, kB2_n, outs_nil, outs_cons, kOuts_o, kCons_o, kOut_o, fn_e, kFn_nx, kFn_rt, kFn_x, fFor_e, kFor_o, kFor_x, loop_nil, loop_cons, kLoop_o, kLoop_nx, kLoop_ct, kLoop_bk, kLoop_rt, fIt_e, kIt_l, kIt_t, fR1_e, kR1_o, fR2_e, kR2_o, fR3_e, kR3_o, fGn_e, fGt_e, fGs1_e, kGs_o, fGs0_e, fAsg_e, kAsg_o, kAsg'_o, isL_e, kL_l, fApp_e, kApp_o, kApp'_o, fExt_e, kExt_o, kExt'_o, fPop_e, kPop_l, kPop'_o, fRev_e, kRev_l, fP0_e, fP1_e, kP1_i, fSl_e, kSl_o, kSl1_o, kSl2_o, fSetL_e, kSL_o, kSL1_o, fLc_e, kLc_o, kLc'_o, wipe_nil, wipe_cons, lcl_nil, lcl_cons, kLc1_o, kLc2_t, kLc2_f, kLc3_o, fYes_e, fD0_e, fDput_e, kDp_o, kDp1_o, kO_int, kDp2_o, isD_e, kD_d, fForD_e, noXF_e, kFD_d, noX_o, fSf_e, kSf_1, isI_e, kI_0, fMeth_e, kMe_o, kMe1_o, kMe2_o, fRaise_e, kRet_x, kSet_x, kIfS_x, kLoop_x, kCall_x, kB_x, kNot_x, kO2_x, fTry_e, kTry_x, kTry1_t, kTry1_f, kTry_o, deadE_nil, deadE_v, deadE_n, deadE_l, deadE_d, deadE_i, fzKs_nil, fT0_e, fz_dtt, kV_dtt, fPkT_e, kPkT_o, fDictO_e, kDictO_d, isTT_e, kTT_d, fTput_e, kTp_o, kTp1_o, kTp2_o, sV_bl, sV_int, kT_2, kT_3, fSfSet_e, kSfS_o, kSfS'_o, kWh_t, kWh_f, kWh'_nx, fD1_e, kD1_o, kD1'_o, eq_self, Int.reduceLT, Int.reduceLE, Int.reduceEq, Int.reduceNeg, Bool.false_eq_true, if_false, Option.map_some, Option.map_none, List.map_cons, List.map_nil, List.length_cons, List.length_nil, List.cons_append, List.nil_append, Nat.reduceAdd, Nat.reduceSub, List.replicate_succ, List.replicate_zero, List.append_nil, List.getElem?_cons_zero, List.getElem?_cons_succ, List.set_cons_zero, List.set_cons_succ, if_true, reduceIte, decide_true, decide_false, Bool.not_true, Bool.not_false, gIx_0, t_var, t_B, Fm.isVar, Fm.isFix, gIx_f1, gIx_f2, Fm.af, gAdd_l1 b v (by omega), fzs_vals, i1]

theorem free_eq (s : Fm) (n : Nat) (h : s.ht + 3 ≤ n) (hh : s.ht ≤ 900) (hv : s.nv < 64) : prog n i_free_variables [.val s.enc] = .ok (.val (.lst ((srt (Fm.af [] [] s)).map PV.int)), []) := by
  obtain ⟨m, rfl⟩ : ∃ m, n = m + 1 := ⟨n - 1, by omega⟩
  have hl := Fm.len_af (s := s) (b := []) (ks := [])
  rw [List.length_nil] at hl
  have i1 := add_free_eq s m [] [] (by omega) (by rw [List.length_nil]; omega) (by rw [List.length_nil]; omega)
  have i1' : prog m i_add_free [.val s.enc, .val (.lst []), .dct []] = .ok (.val .non, [.dct (dT (Fm.af [] [] s))]) := i1
  rw [p_free_variables]
  simp only [b_free_variables, fSeq_e, kSeq_nx, kSeq_rt, kSeq_bk, kSeq_ct, kSeq_exc, fIfS_e, kIfS_t, kIfS_f, fNx_e, fBk_e, fCt_e, fRetN_e, fRet_e, kRet_o, fExpr_e, kExpr_o, kExpr_x, fSet_e, kSet_o, fC_e, fV_e, kV_val, kV_lst, kV_dct, kV_ins, fM_e, kM_o, fZ_e, kZ_o, kG_o, ov_e, fO2_e, kO2_o, kO2'_o, fO1_e, kO1_o, fIsi_e, fB_e, kB_o, fNot_e, kNot_o, fAnd_e, kAnd_t, kAnd_f, fOr_e, kOr_t, kOr_f, fAndV_e, kAndV_t, kAndV_f, fOrV_e, kOrV_t, kOrV_f, fNotV_e, kNotV_o, fIf_e, kIf_t, kIf_f, fA0_e, fA1_e, kA1_o, kA1'_o, vls_nil, vls_cons, kVls_o, fTup_e, kTup_o, kTup'_o, fLst_e, kLst_o, fCB_e, kCB_o, kCB'_o, frE_nil, frE_c, fPk_e, kPk_int, kPk_bl, kPk_str, kPk_non, fz_val, fz_lst, fz_dct, fz_ins, fzs_nil, fzs_cons, fCall_e, kCall_o, kCall'_o, kCall'_x, kPut_o, putB_nil, putB_cons, kB1_s, kB1_n, kB2_n, outs_nil, outs_cons, kOuts_o, kCons_o, kOut_o, fn_e, kFn_nx, kFn_rt, kFn_x, fFor_e, kFor_o, kFor_x, loop_nil, loop_cons, kLoop_o, kLoop_nx, kLoop_ct, kLoop_bk, kLoop_rt, fIt_e, kIt_l, kIt_t, fR1_e, kR1_o, fR2_e, kR2_o, fR3_e, kR3_o, fGn_e, fGt_e, fGs1_e, kGs_o, fGs0_e, fAsg_e, kAsg_o, kAsg'_o, isL_e, kL_l, fApp_e, kApp_o, kApp'_o, fExt_e, kExt_o, kExt'_o, fPop_e, kPop_l, kPop'_o, fRev_e, kRev_l, fP0_e, fP1_e, kP1_i, fSl_e, kSl_o, kSl1_o, kSl2_o, fSetL_e, kSL_o, kSL1_o, fLc_e, kLc_o, kLc'_o, wipe_nil, wipe_cons, lcl_nil, lcl_cons, kLc1_o, kLc2_t, kLc2_f, kLc3_o, fYes_e, fD0_e, fDput_e, kDp_o, kDp1_o, kO_int, kDp2_o, isD_e, kD_d, fForD_e, noXF_e, kFD_d, noX_o, fSf_e, kSf_1, isI_e, kI_0, fMeth_e, kMe_o, kMe1_o, kMe2_o, fRaise_e, kRet_x, kSet_x, kIfS_x, kLoop_x, kCall_x, kB_x, kNot_x, kO2_x, fTry_e, kTry_x, kTry1_t, kTry1_f, kTry_o, deadE_nil, deadE_v, deadE_n, deadE_l, deadE_d, deadE_i, fzKs_nil, fT0_e, fz_dtt, kV_dtt, fPkT_e, kPkT_o, fDictO_e, kDictO_d, isTT_e, kTT_d, fTput_e, kTp_o, kTp1_o, kTp2_o, sV_bl, sV_int, kT_2, kT_3, fSfSet_e, kSfS_o, kSfS'_o, kWh_t, kWh_f, kWh'_nx, fD1_e, kD1_o, kD1'_o, eq_self, Int.reduceLT, Int.reduceLE, Int.reduceEq, Int.reduceNeg, Bool.false_eq_true, if_false, Option.map_some, Option.map_none, List.map_cons, List.map_nil, List.length_cons, List.length_nil, List.cons_append, List.nil_append, Nat.reduceAdd, Nat.reduceSub, List.replicate_succ, List.replicate_zero, List.append_nil, List.getElem?_cons_zero, List.getElem?_cons_succ, List.set_cons_zero, List.set_cons_succ, if_true, reduceIte, decide_true, decide_false, Bool.not_true, Bool.not_false, i1', fz_T, gSortedD_T (show (Fm.af [] [] s).length < 64 by omega), fzs_map, List.map_map]
  rfl
theorem free_nil (s : Fm) (n : Nat) (h : s.ht + 3 ≤ n) (hh : s.ht ≤ 900) (hv : s.nv < 64) (hc : Fm.fin [] s) : prog n i_free_variables [.val s.enc] = .ok (.val (.lst []), []) := by
  have e : srt [] = [] := by unfold srt; simp
  rw [free_eq s n h hh hv, Fm.af_nil hc, e]
  rfl
theorem check_eq (s : Fm) (n : Nat) (h : s.ht + 4 ≤ n) (hh : s.ht ≤ 900) (hv : s.nv < 64) (hc : Fm.fin [] s) : prog n i_check_closed [.val s.enc] = .ok (.val .non, []) := by
  obtain ⟨m, rfl⟩ : ∃ m, n = m + 1 := ⟨n - 1, by omega⟩
  have e : decide ((0 : Int) < ((0 : Nat) : Int)) = false := rfl
  rw [p_check_closed]
  simp only [b_check_closed, fSeq_e, kSeq_nx, kSeq_rt, kSeq_bk, kSeq_ct, kSeq_exc, fIfS_e, kIfS_t, kIfS_f, fNx_e, fBk_e, fCt_e, fRetN_e, fRet_e, kRet_o, fExpr_e, kExpr_o, kExpr_x, fSet_e, kSet_o, fC_e, fV_e, kV_val, kV_lst, kV_dct, kV_ins, fM_e, kM_o, fZ_e, kZ_o, kG_o, ov_e, fO2_e, kO2_o, kO2'_o, fO1_e, kO1_o, fIsi_e, fB_e, kB_o, fNot_e, kNot_o, fAnd_e, kAnd_t, kAnd_f, fOr_e, kOr_t, kOr_f, fAndV_e, kAndV_t, kAndV_f, fOrV_e, kOrV_t, kOrV_f, fNotV_e, kNotV_o, fIf_e, kIf_t, kIf_f, fA0_e, fA1_e, kA1_o, kA1'_o, vls_nil, vls_cons, kVls_o, fTup_e, kTup_o, kTup'_o, fLst_e, kLst_o, fCB_e, kCB_o, kCB'_o, frE_nil, frE_c, fPk_e, kPk_int, kPk_bl, kPk_str, kPk_non, fz_val, fz_lst, fz_dct, fz_ins, fzs_nil, fzs_cons, fCall_e, kCall_o, kCall'_o, kCall'_x, kPut_o, putB_nil, putB_cons, kB1_s, kB1_n, kB2_n, outs_nil, outs_cons, kOuts_o, kCons_o, kOut_o, fn_e, kFn_nx, kFn_rt, kFn_x, fFor_e, kFor_o, kFor_x, loop_nil, loop_cons, kLoop_o, kLoop_nx, kLoop_ct, kLoop_bk, kLoop_rt, fIt_e, kIt_l, kIt_t, fR1_e, kR1_o, fR2_e, kR2_o, fR3_e, kR3_o, fGn_e, fGt_e, fGs1_e, kGs_o, fGs0_e, fAsg_e, kAsg_o, kAsg'_o, isL_e, kL_l, fApp_e, kApp_o, kApp'_o, fExt_e, kExt_o, kExt'_o, fPop_e, kPop_l, kPop'_o, fRev_e, kRev_l, fP0_e, fP1_e, kP1_i, fSl_e, kSl_o, kSl1_o, kSl2_o, fSetL_e, kSL_o, kSL1_o, fLc_e, kLc_o, kLc'_o, wipe_nil, wipe_cons, lcl_nil, lcl_cons, kLc1_o, kLc2_t, kLc2_f, kLc3_o, fYes_e, fD0_e, fDput_e, kDp_o, kDp1_o, kO_int, kDp2_o, isD_e, kD_d, fForD_e, noXF_e, kFD_d, noX_o, fSf_e, kSf_1, isI_e, kI_0, fMeth_e, kMe_o, kMe1_o, kMe2_o, fRaise_e, kRet_x, kSet_x, kIfS_x, kLoop_x, kCall_x, kB_x, kNot_x, kO2_x, fTry_e, kTry_x, kTry1_t, kTry1_f, kTry_o, deadE_nil, deadE_v, deadE_n, deadE_l, deadE_d, deadE_i, fzKs_nil, fT0_e, fz_dtt, kV_dtt, fPkT_e, kPkT_o, fDictO_e, kDictO_d, isTT_e, kTT_d, fTput_e, kTp_o, kTp1_o, kTp2_o, sV_bl, sV_int, kT_2, kT_3, fSfSet_e, kSfS_o, kSfS'_o, kWh_t, kWh_f, kWh'_nx, fD1_e, kD1_o, kD1'_o, eq_self, Int.reduceLT, Int.reduceLE, Int.reduceEq, Int.reduceNeg, Bool.false_eq_true, if_false, Option.map_some, Option.map_none, List.map_cons, List.map_nil, List.length_cons, List.length_nil, List.cons_append, List.nil_append, Nat.reduceAdd, Nat.reduceSub, List.replicate_succ, List.replicate_zero, List.append_nil, List.getElem?_cons_zero, List.getElem?_cons_succ, List.set_cons_zero, List.set_cons_succ, if_true, reduceIte, decide_true, decide_false, Bool.not_true, Bool.not_false, free_nil s m (by omega) hh hv hc, gLen_l, gGt_i, e]
/-! the law's own -/
theorem law_free_eq : ∀ (s : Fm) (n : Nat) (b : List Int), s.ht + 2 ≤ n → b.length + s.ht ≤ 1000 → s.nv ≤ 1000 → prog n i__law_free [.val s.enc, .val (liP b)] = .ok (.val (liP (Fm.fr b s)), []) ∧ (Fm.fr b s).length ≤ s.nv
  | s, 0, b, h, _, _ => by omega
  | .leaf k, n + 1, b, h, hb, hk => by
    obtain ⟨m, rfl⟩ : ∃ m, n = m + 1 := ⟨n - 1, by omega⟩
    refine ⟨?_, Nat.zero_le _⟩
    rw [p__law_free]
    simp only [b__law_free, fSeq_e, kSeq_nx, kSeq_rt, kSeq_bk, kSeq_ct, kSeq_exc, fIfS_e, kIfS_t, kIfS_f, fNx_e, fBk_e, fCt_e, fRetN_e, fRet_e, kRet_o, fExpr_e, kExpr_o, kExpr_x, fSet_e, kSet_o, fC_e, fV_e, kV_val, kV_lst, kV_dct, kV_ins, fM_e, kM_o, fZ_e, kZ_o, kG_o, ov_e, fO2_e, kO2_o, kO2'_o, fO1_e, kO1_o, fIsi_e, fB_e, kB_o, fNot_e, kNot_o, fAnd_e, kAnd_t, kAnd_f, fOr_e, kOr_t, kOr_f, fAndV_e, kAndV_t, kAndV_f, fOrV_e, kOrV_t, kOrV_f, fNotV_e, kNotV_o, fIf_e, kIf_t, kIf_f, fA0_e, fA1_e, kA1_o, kA1'_o, vls_nil, vls_cons, kVls_o, fTup_e, kTup_o, kTup'_o, fLst_e, kLst_o, fCB_e, kCB_o, kCB'_o, frE_nil, frE_c, fPk_e, kPk_int, kPk_bl, kPk_str, kPk_non, fz_val, fz_lst, fz_dct, fz_ins, fzs_nil, fzs_cons, fCall_e, kCall_o, kCall'_o, kCall'_x, kPut_o, putB_nil, putB_cons, kB1_s, kB1_n, kB2_n, outs_nil, outs_cons, kOuts_o, kCons_o, kOut_o, fn_e, kFn_nx, kFn_rt, kFn_x, fFor_e, kFor_o, kFor_x, loop_nil, loop_cons, kLoop_o, kLoop_nx, kLoop_ct, kLoop_bk, kLoop_rt, fIt_e, kIt_l, kIt_t, fR1_e, kR1_o, fR2_e, kR2_o, fR3_e, kR3_o, fGn_e, fGt_e, fGs1_e, kGs_o, fGs0_e, fAsg_e, kAsg_o, kAsg'_o, isL_e, kL_l, fApp_e, kApp_o, kApp'_o, fExt_e, kExt_o, kExt'_o, fPop_e, kPop_l, kPop'_o, fRev_e, kRev_l, fP0_e, fP1_e, kP1_i, fSl_e, kSl_o, kSl1_o, kSl2_o, fSetL_e, kSL_o, kSL1_o, fLc_e, kLc_o, kLc'_o, wipe_nil, wipe_cons, lcl_nil, lcl_cons, kLc1_o, kLc2_t, kLc2_f, kLc3_o, fYes_e, fD0_e, fDput_e, kDp_o, kDp1_o, kO_int, kDp2_o, isD_e, kD_d, fForD_e, noXF_e, kFD_d, noX_o, fSf_e, kSf_1, isI_e, kI_0, fMeth_e, kMe_o, kMe1_o, kMe2_o, fRaise_e, kRet_x, kSet_x, kIfS_x, kLoop_x, kCall_x, kB_x, kNot_x, kO2_x, fTry_e, kTry_x, kTry1_t, kTry1_f, kTry_o, deadE_nil, deadE_v, deadE_n, deadE_l, deadE_d, deadE_i, fzKs_nil, fT0_e, fz_dtt, kV_dtt, fPkT_e, kPkT_o, fDictO_e, kDictO_d, isTT_e, kTT_d, fTput_e, kTp_o, kTp1_o, kTp2_o, sV_bl, sV_int, kT_2, kT_3, fSfSet_e, kSfS_o, kSfS'_o, kWh_t, kWh_f, kWh'_nx, fD1_e, kD1_o, kD1'_o, eq_self, Int.reduceLT, Int.reduceLE, Int.reduceEq, Int.reduceNeg, Bool.false_eq_true, if_false, Option.map_some, Option.map_none, List.map_cons, List.map_nil, List.length_cons, List.length_nil, List.cons_append, List.nil_append, Nat.reduceAdd, Nat.reduceSub, List.replicate_succ, List.replicate_zero, List.append_nil, List.getElem?_cons_zero, List.getElem?_cons_succ, List.set_cons_zero, List.set_cons_succ, if_true, reduceIte, decide_true, decide_false, Bool.not_true, Bool.not_false, gIx_0, t_var, t_LM, Fm.isVar, Fm.isFix, law_inner_eq, lsF, Fm.parts, Fm.fr, liP]
  | .var v, n + 1, b, h, hb, hk => by
    constructor
    · rw [p__law_free]
      by_cases hv : v ∈ b
      · simp only [b__law_free, fSeq_e, kSeq_nx, kSeq_rt, kSeq_bk, kSeq_ct, kSeq_exc, fIfS_e, kIfS_t, kIfS_f, fNx_e, fBk_e, fCt_e, fRetN_e, fRet_e, kRet_o, fExpr_e, kExpr_o, kExpr_x, fSet_e, kSet_o, fC_e, fV_e, kV_val, kV_lst, kV_dct, kV_ins, fM_e, kM_o, fZ_e, kZ_o, kG_o, ov_e, fO2_e, kO2_o, kO2'_o, fO1_e, kO1_o, fIsi_e, fB_e, kB_o, fNot_e, kNot_o, fAnd_e, kAnd_t, kAnd_f, fOr_e, kOr_t, kOr_f, fAndV_e, kAndV_t, kAndV_f, fOrV_e, kOrV_t, kOrV_f, fNotV_e, kNotV_o, fIf_e, kIf_t, kIf_f, fA0_e, fA1_e, kA1_o, kA1'_o, vls_nil, vls_cons, kVls_o, fTup_e, kTup_o, kTup'_o, fLst_e, kLst_o, fCB_e, kCB_o, kCB'_o, frE_nil, frE_c, fPk_e, kPk_int, kPk_bl, kPk_str, kPk_non, fz_val, fz_lst, fz_dct, fz_ins, fzs_nil, fzs_cons, fCall_e, kCall_o, kCall'_o, kCall'_x, kPut_o, putB_nil, putB_cons, kB1_s, kB1_n, kB2_n, outs_nil, outs_cons, kOuts_o, kCons_o, kOut_o, fn_e, kFn_nx, kFn_rt, kFn_x, fFor_e, kFor_o, kFor_x, loop_nil, loop_cons, kLoop_o, kLoop_nx, kLoop_ct, kLoop_bk, kLoop_rt, fIt_e, kIt_l, kIt_t, fR1_e, kR1_o, fR2_e, kR2_o, fR3_e, kR3_o, fGn_e, fGt_e, fGs1_e, kGs_o, fGs0_e, fAsg_e, kAsg_o, kAsg'_o, isL_e, kL_l, fApp_e, kApp_o, kApp'_o, fExt_e, kExt_o, kExt'_o, fPop_e, kPop_l, kPop'_o, fRev_e, kRev_l, fP0_e, fP1_e, kP1_i, fSl_e, kSl_o, kSl1_o, kSl2_o, fSetL_e, kSL_o, kSL1_o, fLc_e, kLc_o, kLc'_o, wipe_nil, wipe_cons, lcl_nil, lcl_cons, kLc1_o, kLc2_t, kLc2_f, kLc3_o, fYes_e, fD0_e, fDput_e, kDp_o, kDp1_o, kO_int, kDp2_o, isD_e, kD_d, fForD_e, noXF_e, kFD_d, noX_o, fSf_e, kSf_1, isI_e, kI_0, fMeth_e, kMe_o, kMe1_o, kMe2_o, fRaise_e, kRet_x, kSet_x, kIfS_x, kLoop_x, kCall_x, kB_x, kNot_x, kO2_x, fTry_e, kTry_x, kTry1_t, kTry1_f, kTry_o, deadE_nil, deadE_v, deadE_n, deadE_l, deadE_d, deadE_i, fzKs_nil, fT0_e, fz_dtt, kV_dtt, fPkT_e, kPkT_o, fDictO_e, kDictO_d, isTT_e, kTT_d, fTput_e, kTp_o, kTp1_o, kTp2_o, sV_bl, sV_int, kT_2, kT_3, fSfSet_e, kSfS_o, kSfS'_o, kWh_t, kWh_f, kWh'_nx, fD1_e, kD1_o, kD1'_o, eq_self, Int.reduceLT, Int.reduceLE, Int.reduceEq, Int.reduceNeg, Bool.false_eq_true, if_false, Option.map_some, Option.map_none, List.map_cons, List.map_nil, List.length_cons, List.length_nil, List.cons_append, List.nil_append, Nat.reduceAdd, Nat.reduceSub, List.replicate_succ, List.replicate_zero, List.append_nil, List.getElem?_cons_zero, List.getElem?_cons_succ, List.set_cons_zero, List.set_cons_succ, if_true, reduceIte, decide_true, decide_false, Bool.not_true, Bool.not_false, gIx_0, t_var, t_LM, Fm.isVar, Fm.isFix, gIx_v1, liP, gIn_ints, hv, Fm.fr]
      · simp only [b__law_free, fSeq_e, kSeq_nx, kSeq_rt, kSeq_bk, kSeq_ct, kSeq_exc, fIfS_e, kIfS_t, kIfS_f, fNx_e, fBk_e, fCt_e, fRetN_e, fRet_e, kRet_o, fExpr_e, kExpr_o, kExpr_x, fSet_e, kSet_o, fC_e, fV_e, kV_val, kV_lst, kV_dct, kV_ins, fM_e, kM_o, fZ_e, kZ_o, kG_o, ov_e, fO2_e, kO2_o, kO2'_o, fO1_e, kO1_o, fIsi_e, fB_e, kB_o, fNot_e, kNot_o, fAnd_e, kAnd_t, kAnd_f, fOr_e, kOr_t, kOr_f, fAndV_e, kAndV_t, kAndV_f, fOrV_e, kOrV_t, kOrV_f, fNotV_e, kNotV_o, fIf_e, kIf_t, kIf_f, fA0_e, fA1_e, kA1_o, kA1'_o, vls_nil, vls_cons, kVls_o, fTup_e, kTup_o, kTup'_o, fLst_e, kLst_o, fCB_e, kCB_o, kCB'_o, frE_nil, frE_c, fPk_e, kPk_int, kPk_bl, kPk_str, kPk_non, fz_val, fz_lst, fz_dct, fz_ins, fzs_nil, fzs_cons, fCall_e, kCall_o, kCall'_o, kCall'_x, kPut_o, putB_nil, putB_cons, kB1_s, kB1_n, kB2_n, outs_nil, outs_cons, kOuts_o, kCons_o, kOut_o, fn_e, kFn_nx, kFn_rt, kFn_x, fFor_e, kFor_o, kFor_x, loop_nil, loop_cons, kLoop_o, kLoop_nx, kLoop_ct, kLoop_bk, kLoop_rt, fIt_e, kIt_l, kIt_t, fR1_e, kR1_o, fR2_e, kR2_o, fR3_e, kR3_o, fGn_e, fGt_e, fGs1_e, kGs_o, fGs0_e, fAsg_e, kAsg_o, kAsg'_o, isL_e, kL_l, fApp_e, kApp_o, kApp'_o, fExt_e, kExt_o, kExt'_o, fPop_e, kPop_l, kPop'_o, fRev_e, kRev_l, fP0_e, fP1_e, kP1_i, fSl_e, kSl_o, kSl1_o, kSl2_o, fSetL_e, kSL_o, kSL1_o, fLc_e, kLc_o, kLc'_o, wipe_nil, wipe_cons, lcl_nil, lcl_cons, kLc1_o, kLc2_t, kLc2_f, kLc3_o, fYes_e, fD0_e, fDput_e, kDp_o, kDp1_o, kO_int, kDp2_o, isD_e, kD_d, fForD_e, noXF_e, kFD_d, noX_o, fSf_e, kSf_1, isI_e, kI_0, fMeth_e, kMe_o, kMe1_o, kMe2_o, fRaise_e, kRet_x, kSet_x, kIfS_x, kLoop_x, kCall_x, kB_x, kNot_x, kO2_x, fTry_e, kTry_x, kTry1_t, kTry1_f, kTry_o, deadE_nil, deadE_v, deadE_n, deadE_l, deadE_d, deadE_i, fzKs_nil, fT0_e, fz_dtt, kV_dtt, fPkT_e, kPkT_o, fDictO_e, kDictO_d, isTT_e, kTT_d, fTput_e, kTp_o, kTp1_o, kTp2_o, sV_bl, sV_int, kT_2, kT_3, fSfSet_e, kSfS_o, kSfS'_o, kWh_t, kWh_f, kWh'_nx, fD1_e, kD1_o, kD1'_o, eq_self, Int.reduceLT, Int.reduceLE, Int.reduceEq, Int.reduceNeg, Bool.false_eq_true, if_false, Option.map_some, Option.map_none, List.map_cons, List.map_nil, List.length_cons, List.length_nil, List.cons_append, List.nil_append, Nat.reduceAdd, Nat.reduceSub, List.replicate_succ, List.replicate_zero, List.append_nil, List.getElem?_cons_zero, List.getElem?_cons_succ, List.set_cons_zero, List.set_cons_succ, if_true, reduceIte, decide_true, decide_false, Bool.not_true, Bool.not_false, gIx_0, t_var, t_LM, Fm.isVar, Fm.isFix, gIx_v1, liP, gIn_ints, hv, Fm.fr]
    · unfold Fm.fr Fm.nv
      split <;> simp
  | .bin o x y, n + 1, b, h, hb, hk => by
    have e1 : (Fm.bin o x y).ht = max x.ht y.ht + 1 := rfl
    have e2 : (Fm.bin o x y).nv = x.nv + y.nv := rfl
    have e3 : Fm.fr b (Fm.bin o x y) = Fm.fr b x ++ Fm.fr b y := rfl
    rw [e1] at h hb
    rw [e2] at hk
    obtain ⟨m, rfl⟩ : ∃ m, n = m + 1 := ⟨n - 1, by omega⟩
    obtain ⟨i1, j1⟩ := law_free_eq x (m + 1) b (by omega) (by omega) (by omega)
    obtain ⟨i2, j2⟩ := law_free_eq y (m + 1) b (by omega) (by omega) (by omega)
    constructor
    · have g1 : gAdd (.lst []) (.lst ((Fm.fr b x).map PV.int)) = .ok (.lst (((Fm.fr b x).map PV.int).map .val)) := gAdd_li [] (Fm.fr b x) (by rw [List.length_nil]; omega)
      rw [p__law_free]
      unfold liP at i1 i2 ⊢
      simp only [b__law_free, fSeq_e, kSeq_nx, kSeq_rt, kSeq_bk, kSeq_ct, kSeq_exc, fIfS_e, kIfS_t, kIfS_f, fNx_e, fBk_e, fCt_e, fRetN_e, fRet_e, kRet_o, fExpr_e, kExpr_o, kExpr_x, fSet_e, kSet_o, fC_e, fV_e, kV_val, kV_lst, kV_dct, kV_ins, fM_e, kM_o, fZ_e, kZ_o, kG_o, ov_e, fO2_e, kO2_o, kO2'_o, fO1_e, kO1_o, fIsi_e, fB_e, kB_o, fNot_e, kNot_o, fAnd_e, kAnd_t, kAnd_f, fOr_e, kOr_t, kOr_f, fAndV_e, kAndV_t, kAndV_f, fOrV_e, kOrV_t, kOrV_f, fNotV_e, kNotV_o, fIf_e, kIf_t, kIf_f, fA0_e, fA1_e, kA1_o, kA1'_o, vls_nil, vls_cons, kVls_o, fTup_e, kTup_o, kTup'_o, fLst_e, kLst_o, fCB_e, kCB_o, kCB'_o, frE_nil, frE_c, fPk_e, kPk_int, kPk_bl, kPk_str, kPk_non, fz_val, fz_lst, fz_dct, fz_ins, fzs_nil, fzs_cons, fCall_e, kCall_o, kCall'_o, kCall'_x, kPut_o, putB_nil, putB_cons, kB1_s, kB1_n, kB2_n, outs_nil, outs_cons, kOuts_o, kCons_o, kOut_o, fn_e, kFn_nx, kFn_rt, kFn_x, fFor_e, kFor_o, kFor_x, loop_nil, loop_cons, kLoop_o, kLoop_nx, kLoop_ct, kLoop_bk, kLoop_rt, fIt_e, kIt_l, kIt_t, fR1_e, kR1_o, fR2_e, kR2_o, fR3_e, kR3_o, fGn_e, fGt_e, fGs1_e, kGs_o, fGs0_e, fAsg_e, kAsg_o, kAsg'_o, isL_e, kL_l, fApp_e, kApp_o, kApp'_o, fExt_e, kExt_o, kExt'_o, fPop_e, kPop_l, kPop'_o, fRev_e, kRev_l, fP0_e, fP1_e, kP1_i, fSl_e, kSl_o, kSl1_o, kSl2_o, fSetL_e, kSL_o, kSL1_o, fLc_e, kLc_o, kLc'_o, wipe_nil, wipe_cons, lcl_nil, lcl_cons, kLc1_o, kLc2_t, kLc2_f, kLc3_o, fYes_e, fD0_e, fDput_e, kDp_o, kDp1_o, kO_int, kDp2_o, isD_e, kD_d, fForD_e, noXF_e, kFD_d, noX_o, fSf_e, kSf_1, isI_e, kI_0, fMeth_e, kMe_o, kMe1_o, kMe2_o, fRaise_e, kRet_x, kSet_x, kIfS_x, kLoop_x, kCall_x, kB_x, kNot_x, kO2_x, fTry_e, kTry_x, kTry1_t, kTry1_f, kTry_o, deadE_nil, deadE_v, deadE_n, deadE_l, deadE_d, deadE_i, fzKs_nil, fT0_e, fz_dtt, kV_dtt, fPkT_e, kPkT_o, fDictO_e, kDictO_d, isTT_e, kTT_d, fTput_e, kTp_o, kTp1_o, kTp2_o, sV_bl, sV_int, kT_2, kT_3, fSfSet_e, kSfS_o, kSfS'_o, kWh_t, kWh_f, kWh'_nx, fD1_e, kD1_o, kD1'_o, eq_self, Int.reduceLT, Int.reduceLE, Int.reduceEq, Int.reduceNeg, Bool.false_eq_true, if_false, Option.map_some, Option.map_none, List.map_cons, List.map_nil, List.length_cons, List.length_nil, List.cons_append, List.nil_append, Nat.reduceAdd, Nat.reduceSub, List.replicate_succ, List.replicate_zero, List.append_nil, List.getElem?_cons_zero, List.getElem?_cons_succ, List.set_cons_zero, List.set_cons_succ, if_true, reduceIte, decide_true, decide_false, Bool.not_true, Bool.not_false, gIx_0, t_var, t_LM, Fm.isVar, Fm.isFix, law_inner_eq, lsF, Fm.parts, e3, i1, i2, g1, gAdd_li (Fm.fr b x) (Fm.fr b y) (by omega), fzs_vals]
    · rw [e2, e3, List.length_append]
      omega
  | .mod o l x, n + 1, b, h, hb, hk => by
    have e1 : (Fm.mod o l x).ht = x.ht + 1 := rfl
    have e2 : (Fm.mod o l x).nv = x.nv := rfl
    have e3 : Fm.fr b (Fm.mod o l x) = Fm.fr b x := rfl
    rw [e1] at h hb
    rw [e2] at hk
    obtain ⟨m, rfl⟩ : ∃ m, n = m + 1 := ⟨n - 1, by omega⟩
    obtain ⟨i1, j1⟩ := law_free_eq x (m + 1) b (by omega) (by omega) (by omega)
    refine ⟨?_, by rw [e2, e3]; exact j1⟩
    have g1 : gAdd (.lst []) (.lst ((Fm.fr b x).map PV.int)) = .ok (.lst (((Fm.fr b x).map PV.int).map .val)) := gAdd_li [] (Fm.fr b x) (by rw [List.length_nil]; omega)
    rw [p__law_free]
    unfold liP at i1 ⊢
    simp only [b__law_free, fSeq_e, kSeq_nx, kSeq_rt, kSeq_bk, kSeq_ct, kSeq_exc, fIfS_e, kIfS_t, kIfS_f, fNx_e, fBk_e, fCt_e, fRetN_e, fRet_e, kRet_o, fExpr_e, kExpr_o, kExpr_x, fSet_e, kSet_o, fC_e, fV_e, kV_val, kV_lst, kV_dct, kV_ins, fM_e, kM_o, fZ_e, kZ_o, kG_o, ov_e, fO2_e, kO2_o, kO2'_o, fO1_e, kO1_o, fIsi_e, fB_e, kB_o, fNot_e, kNot_o, fAnd_e, kAnd_t, kAnd_f, fOr_e, kOr_t, kOr_f, fAndV_e, kAndV_t, kAndV_f, fOrV_e, kOrV_t, kOrV_f, fNotV_e, kNotV_o, fIf_e, kIf_t, kIf_f, fA0_e, fA1_e, kA1_o, kA1'_o, vls_nil, vls_cons, kVls_o, fTup_e, kTup_o, kTup'_o, fLst_e, kLst_o, fCB_e, kCB_o, kCB'_o, frE_nil, frE_c, fPk_e, kPk_int, kPk_bl, kPk_str, kPk_non, fz_val, fz_lst, fz_dct, fz_ins, fzs_nil, fzs_cons, fCall_e, kCall_o, kCall'_o, kCall'_x, kPut_o, putB_nil, putB_cons, kB1_s, kB1_n, kB2_n, outs_nil, outs_cons, kOuts_o, kCons_o, kOut_o, fn_e, kFn_nx, kFn_rt, kFn_x, fFor_e, kFor_o, kFor_x, loop_nil, loop_cons, kLoop_o, kLoop_nx, kLoop_ct, kLoop_bk, kLoop_rt, fIt_e, kIt_l, kIt_t, fR1_e, kR1_o, fR2_e, kR2_o, fR3_e, kR3_o, fGn_e, fGt_e, fGs1_e, kGs_o, fGs0_e, fAsg_e, kAsg_o, kAsg'_o, isL_e, kL_l, fApp_e, kApp_o, kApp'_o, fExt_e, kExt_o, kExt'_o, fPop_e, kPop_l, kPop'_o, fRev_e, kRev_l, fP0_e, fP1_e, kP1_i, fSl_e, kSl_o, kSl1_o, kSl2_o, fSetL_e, kSL_o, kSL1_o, fLc_e, kLc_o, kLc'_o, wipe_nil, wipe_cons, lcl_nil, lcl_cons, kLc1_o, kLc2_t, kLc2_f, kLc3_o, fYes_e, fD0_e, fDput_e, kDp_o, kDp1_o, kO_int, kDp2_o, isD_e, kD_d, fForD_e, noXF_e, kFD_d, noX_o, fSf_e, kSf_1, isI_e, kI_0, fMeth_e, kMe_o, kMe1_o, kMe2_o, fRaise_e, kRet_x, kSet_x, kIfS_x, kLoop_x, kCall_x, kB_x, kNot_x, kO2_x, fTry_e, kTry_x, kTry1_t, kTry1_f, kTry_o, deadE_nil, deadE_v, deadE_n, deadE_l, deadE_d, deadE_i, fzKs_nil, fT0_e, fz_dtt, kV_dtt, fPkT_e, kPkT_o, fDictO_e, kDictO_d, isTT_e, kTT_d, fTput_e, kTp_o, kTp1_o, kTp2_o, sV_bl, sV_int, kT_2, kT_3, fSfSet_e, kSfS_o, kSfS'_o, kWh_t, kWh_f, kWh'_nx, fD1_e, kD1_o, kD1'_o, eq_self, Int.reduceLT, Int.reduceLE, Int.reduceEq, Int.reduceNeg, Bool.false_eq_true, if_false, Option.map_some, Option.map_none, List.map_cons, List.map_nil, List.length_cons, List.length_nil, List.cons_append, List.nil_append, Nat.reduceAdd, Nat.reduceSub, List.replicate_succ, List.replicate_zero, List.append_nil, List.getElem?_cons_zero, List.getElem?_cons_succ, List.set_cons_zero, List.set_cons_succ, if_true, reduceIte, decide_true, decide_false, Bool.not_true, Bool.not_false, gIx_0, t_var, t_LM, Fm.isVar, Fm.isFix, law_inner_eq, lsF, Fm.parts, e3, i1, g1, fzs_vals]
  | .fix o v x, n + 1, b, h, hb, hk => by
    have e1 : (Fm.fix o v x).ht = x.ht + 1 := rfl
    have e2 : (Fm.fix o v x).nv = x.nv := rfl
    have e3 : Fm.fr b (Fm.fix o v x) = Fm.fr (b ++ [v]) x := rfl
    rw [e1] at h hb
    rw [e2] at hk
    obtain ⟨i1, j1⟩ := law_free_eq x n (b ++ [v]) (by omega) (by rw [List.length_append, List.length_singleton]; omega) (by omega)
    refine ⟨?_, by rw [e2, e3]; exact j1⟩
    rw [p__law_free]
    unfold liP at i1 ⊢
    simp only [b__law_free, fSeq_e, kSeq_nx, kSeq_rt, kSeq_bk, kSeq_ct, kSeq_exc, fIfS_e, kIfS_t, kIfS_f, fNx_e, fBk_e, fCt_e, fRetN_e, fRet_e, kRet_o, fExpr_e, kExpr_o, kExpr_x, fSet_e, kSet_o, fC_e, fV_e, kV_val, kV_lst, kV_dct, kV_ins, fM_e, kM_o, fZ_e, kZ_o, kG_o, ov_e, fO2_e, kO2_o, kO2'_o, fO1_e, kO1_o, fIsi_e, fB_e, kB_o, fNot_e, kNot_o, fAnd_e, kAnd_t, kAnd_f, fOr_e, kOr_t, kOr_f, fAndV_e, kAndV_t, kAndV_f, fOrV_e, kOrV_t, kOrV_f, fNotV_e, kNotV_o, fIf_e, kIf_t, kIf_f, fA0_e, fA1_e, kA1_o, kA1'_o, vls_nil, vls_cons, kVls_o, fTup_e, kTup_o, kTup'_o, fLst_e, kLst_o, fCB_e, kCB_o, kCB'_o, frE_nil, frE_c, fPk_e, kPk_int, kPk_bl, kPk_str, kPk_non, fz_val, fz_lst, fz_dct, fz_ins, fzs_nil, fzs_cons, fCall_e, kCall_o, kCall'_o, kCall'_x, kPut_o, putB_nil, putB_cons, kB1_s, kB1_n, kB2_n, outs_nil, outs_cons, kOuts_o, kCons_o, kOut_o, fn_e, kFn_nx, kFn_rt, kFn_x, fFor_e, kFor_o, kFor_x, loop_nil, loop_cons, kLoop_o, kLoop_nx, kLoop_ct, kLoop_bk, kLoop_rt, fIt_e, kIt_l, kIt_t, fR1_e, kR1_o, fR2_e, kR2_o, fR3_e, kR3_o, fGn_e, fGt_e, fGs1_e, kGs_o, fGs0_e, fAsg_e, kAsg_o, kAsg'_o, isL_e, kL_l, fApp_e, kApp_o, kApp'_o, fExt_e, kExt_o, kExt'_o, fPop_e, kPop_l, kPop'_o, fRev_e, kRev_l, fP0_e, fP1_e, kP1_i, fSl_e, kSl_o, kSl1_o, kSl2_o, fSetL_e, kSL_o, kSL1_o, fLc_e, kLc_o, kLc'_o, wipe_nil, wipe_cons, lcl_nil, lcl_cons, kLc1_o, kLc2_t, kLc2_f, kLc3_o, fYes_e, fD0_e, fDput_e, kDp_o, kDp1_o, kO_int, kDp2_o, isD_e, kD_d, fForD_e, noXF_e, kFD_d, noX_o, fSf_e, kSf_1, isI_e, kI_0, fMeth_e, kMe_o, kMe1_o, kMe2_o, fRaise_e, kRet_x, kSet_x, kIfS_x, kLoop_x, kCall_x, kB_x, kNot_x, kO2_x, fTry_e, kTry_x, kTry1_t, kTry1_f, kTry_o, deadE_nil, deadE_v, deadE_n, deadE_l, deadE_d, deadE_i, fzKs_nil, fT0_e, fz_dtt, kV_dtt, fPkT_e, kPkT_o, fDictO_e, kDictO_d, isTT_e, kTT_d, fTput_e, kTp_o, kTp1_o, kTp2_o, sV_bl, sV_int, kT_2, kT_3, fSfSet_e, kSfS_o, kSfS'_o, kWh_t, kWh_f, kWh'_nx, fD1_e, kD1_o, kD1'_o, eq_self, Int.reduceLT, Int.reduceLE, Int.reduceEq, Int.reduceNeg, Bool.false_eq_true, if_false, Option.map_some, Option.map_none, List.map_cons, List.map_nil, List.length_cons, List.length_nil, List.cons_append, List.nil_append, Nat.reduceAdd, Nat.reduceSub, List.replicate_succ, List.replicate_zero, List.append_nil, List.getElem?_cons_zero, List.getElem?_cons_succ, List.set_cons_zero, List.set_cons_succ, if_true, reduceIte, decide_true, decide_false, Bool.not_true, Bool.not_false, gIx_0, t_var, t_LM, Fm.isVar, Fm.isFix, gIx_f1, gIx_f2, e3, gAdd_l1 b v (by omega), fzs_vals, i1]
end L01

namespace L01
open PySem L2 Ev
theorem tk {n : Nat} {m : Int} (h : 0 < m) (D : List Int) : prog (n + 1) i__law_take [encD D, .val (.int m)] = .ok (.val (.int (takeV D m)), [encD (takeR D)]) := by
  rw [p__law_take]
  exact take_eq h
theorem rg2 (D : List Int) : 0 ≤ takeV D 2 ∧ takeV D 2 < 2 := takeV_range D (m := 2) (by decide)
theorem rg3 (D : List Int) : 0 ≤ takeV D 3 / 2 ∧ takeV D 3 / 2 ≤ 1 := by
  have := takeV_range D (m := 3) (by decide)
  omega
theorem two (D : List Int) : takeV D 2 = 0 ∨ takeV D 2 = 1 := by
  have := takeV_range D (m := 2) (by decide)
  omega
theorem four (D : List Int) : takeV D 4 = 0 ∨ takeV D 4 = 1 ∨ takeV D 4 = 2 ∨ takeV D 4 = 3 := by
  have := takeV_range D (m := 4) (by decide)
  omega
theorem at_mem {l : List Int} {i : Int} (h0 : 0 ≤ i) (h1 : i < l.length) : ∃ v, v ∈ l ∧ gIx (.lst (l.map PV.int)) (.int i) = .ok (.val (.int v)) := by
  have hi : i.toNat < l.length := by omega
  refine ⟨l[i.toNat], List.getElem_mem hi, gIx_l ?_⟩
  unfold atI ixN
  rw [if_pos h0, List.length_map, if_pos h1]
  simp [hi]
theorem fz_str : gIx (.lst [.str z_has, .str z_lacks]) (.int 0) = .ok (.val (.str z_has)) := rfl
theorem fz_str' : gIx (.lst [.str z_has, .str z_lacks]) (.int 1) = .ok (.val (.str z_lacks)) := rfl
theorem atom_eq (n : Nat) (D r : List Int) (hr7 : ∀ x ∈ r, 0 ≤ x ∧ x ≤ 7) : ∃ s D', prog (n + 2) i__law_atom [encD D, .val (liP r)] = .ok (.val (Fm.enc s), [encD D']) ∧ s.ht = 0 ∧ Fm.fin r s ∧ Fm.nn s := by
  have h8 := takeV_range D (m := 8) (by decide)
  by_cases c1 : (0 : Int) < (r.length : Int)
  · by_cases c2 : takeV D 8 < 5
    · have hr := takeV_range (takeR D) c1
      obtain ⟨v, hv, ev⟩ := at_mem (l := r) hr.1 hr.2
      refine ⟨.var v, takeR (takeR D), ?_, rfl, hv, hr7 v hv⟩
      rw [p__law_atom]
      unfold liP
      simp only [b__law_atom, fSeq_e, kSeq_nx, kSeq_rt, kSeq_bk, kSeq_ct, kSeq_exc, fIfS_e, kIfS_t, kIfS_f, fNx_e, fBk_e, fCt_e, fRetN_e, fRet_e, kRet_o, fExpr_e, kExpr_o, kExpr_x, fSet_e, kSet_o, fC_e, fV_e, kV_val, kV_lst, kV_dct, kV_ins, fM_e, kM_o, fZ_e, kZ_o, kG_o, ov_e, fO2_e, kO2_o, kO2'_o, fO1_e, kO1_o, fIsi_e, fB_e, kB_o, fNot_e, kNot_o, fAnd_e, kAnd_t, kAnd_f, fOr_e, kOr_t, kOr_f, fAndV_e, kAndV_t, kAndV_f, fOrV_e, kOrV_t, kOrV_f, fNotV_e, kNotV_o, fIf_e, kIf_t, kIf_f, fA0_e, fA1_e, kA1_o, kA1'_o, vls_nil, vls_cons, kVls_o, fTup_e, kTup_o, kTup'_o, fLst_e, kLst_o, fCB_e, kCB_o, kCB'_o, frE_nil, frE_c, fPk_e, kPk_int, kPk_bl, kPk_str, kPk_non, fz_val, fz_lst, fz_dct, fz_ins, fzs_nil, fzs_cons, fCall_e, kCall_o, kCall'_o, kCall'_x, kPut_o, putB_nil, putB_cons, kB1_s, kB1_n, kB2_n, outs_nil, outs_cons, kOuts_o, kCons_o, kOut_o, fn_e, kFn_nx, kFn_rt, kFn_x, fFor_e, kFor_o, kFor_x, loop_nil, loop_cons, kLoop_o, kLoop_nx, kLoop_ct, kLoop_bk, kLoop_rt, fIt_e, kIt_l, kIt_t, fR1_e, kR1_o, fR2_e, kR2_o, fR3_e, kR3_o, fGn_e, fGt_e, fGs1_e, kGs_o, fGs0_e, fAsg_e, kAsg_o, kAsg'_o, isL_e, kL_l, fApp_e, kApp_o, kApp'_o, fExt_e, kExt_o, kExt'_o, fPop_e, kPop_l, kPop'_o, fRev_e, kRev_l, fP0_e, fP1_e, kP1_i, fSl_e, kSl_o, kSl1_o, kSl2_o, fSetL_e, kSL_o, kSL1_o, fLc_e, kLc_o, kLc'_o, wipe_nil, wipe_cons, lcl_nil, lcl_cons, kLc1_o, kLc2_t, kLc2_f, kLc3_o, fYes_e, fD0_e, fDput_e, kDp_o, kDp1_o, kO_int, kDp2_o, isD_e, kD_d, fForD_e, noXF_e, kFD_d, noX_o, fSf_e, kSf_1, isI_e, kI_0, fMeth_e, kMe_o, kMe1_o, kMe2_o, fRaise_e, kRet_x, kSet_x, kIfS_x, kLoop_x, kCall_x, kB_x, kNot_x, kO2_x, fTry_e, kTry_x, kTry1_t, kTry1_f, kTry_o, deadE_nil, deadE_v, deadE_n, deadE_l, deadE_d, deadE_i, fzKs_nil, fT0_e, fz_dtt, kV_dtt, fPkT_e, kPkT_o, fDictO_e, kDictO_d, isTT_e, kTT_d, fTput_e, kTp_o, kTp1_o, kTp2_o, sV_bl, sV_int, kT_2, kT_3, fSfSet_e, kSfS_o, kSfS'_o, kWh_t, kWh_f, kWh'_nx, fD1_e, kD1_o, kD1'_o, eq_self, Int.reduceLT, Int.reduceLE, Int.reduceEq, Int.reduceNeg, Bool.false_eq_true, if_false, Option.map_some, Option.map_none, List.map_cons, List.map_nil, List.length_cons, List.length_nil, List.cons_append, List.nil_append, Nat.reduceAdd, Nat.reduceSub, List.replicate_succ, List.replicate_zero, List.append_nil, List.getElem?_cons_zero, List.getElem?_cons_succ, List.set_cons_zero, List.set_cons_succ, if_true, reduceIte, decide_true, decide_false, Bool.not_true, Bool.not_false, tk (show (0 : Int) < 8 by decide), gLen_l, List.length_map, gGt_i, gLt_i, c1, c2, tk c1, ev] <;> rfl
    · by_cases c3 : takeV D 8 = 5
      · rcases two (takeR D) with q | q
        · refine ⟨.leaf .tr, takeR (takeR D), ?_, rfl, trivial, trivial⟩
          rw [p__law_atom]
          unfold liP
          simp only [b__law_atom, fSeq_e, kSeq_nx, kSeq_rt, kSeq_bk, kSeq_ct, kSeq_exc, fIfS_e, kIfS_t, kIfS_f, fNx_e, fBk_e, fCt_e, fRetN_e, fRet_e, kRet_o, fExpr_e, kExpr_o, kExpr_x, fSet_e, kSet_o, fC_e, fV_e, kV_val, kV_lst, kV_dct, kV_ins, fM_e, kM_o, fZ_e, kZ_o, kG_o, ov_e, fO2_e, kO2_o, kO2'_o, fO1_e, kO1_o, fIsi_e, fB_e, kB_o, fNot_e, kNot_o, fAnd_e, kAnd_t, kAnd_f, fOr_e, kOr_t, kOr_f, fAndV_e, kAndV_t, kAndV_f, fOrV_e, kOrV_t, kOrV_f, fNotV_e, kNotV_o, fIf_e, kIf_t, kIf_f, fA0_e, fA1_e, kA1_o, kA1'_o, vls_nil, vls_cons, kVls_o, fTup_e, kTup_o, kTup'_o, fLst_e, kLst_o, fCB_e, kCB_o, kCB'_o, frE_nil, frE_c, fPk_e, kPk_int, kPk_bl, kPk_str, kPk_non, fz_val, fz_lst, fz_dct, fz_ins, fzs_nil, fzs_cons, fCall_e, kCall_o, kCall'_o, kCall'_x, kPut_o, putB_nil, putB_cons, kB1_s, kB1_n, kB2_n, outs_nil, outs_cons, kOuts_o, kCons_o, kOut_o, fn_e, kFn_nx, kFn_rt, kFn_x, fFor_e, kFor_o, kFor_x, loop_nil, loop_cons, kLoop_o, kLoop_nx, kLoop_ct, kLoop_bk, kLoop_rt, fIt_e, kIt_l, kIt_t, fR1_e, kR1_o, fR2_e, kR2_o, fR3_e, kR3_o, fGn_e, fGt_e, fGs1_e, kGs_o, fGs0_e, fAsg_e, kAsg_o, kAsg'_o, isL_e, kL_l, fApp_e, kApp_o, kApp'_o, fExt_e, kExt_o, kExt'_o, fPop_e, kPop_l, kPop'_o, fRev_e, kRev_l, fP0_e, fP1_e, kP1_i, fSl_e, kSl_o, kSl1_o, kSl2_o, fSetL_e, kSL_o, kSL1_o, fLc_e, kLc_o, kLc'_o, wipe_nil, wipe_cons, lcl_nil, lcl_cons, kLc1_o, kLc2_t, kLc2_f, kLc3_o, fYes_e, fD0_e, fDput_e, kDp_o, kDp1_o, kO_int, kDp2_o, isD_e, kD_d, fForD_e, noXF_e, kFD_d, noX_o, fSf_e, kSf_1, isI_e, kI_0, fMeth_e, kMe_o, kMe1_o, kMe2_o, fRaise_e, kRet_x, kSet_x, kIfS_x, kLoop_x, kCall_x, kB_x, kNot_x, kO2_x, fTry_e, kTry_x, kTry1_t, kTry1_f, kTry_o, deadE_nil, deadE_v, deadE_n, deadE_l, deadE_d, deadE_i, fzKs_nil, fT0_e, fz_dtt, kV_dtt, fPkT_e, kPkT_o, fDictO_e, kDictO_d, isTT_e, kTT_d, fTput_e, kTp_o, kTp1_o, kTp2_o, sV_bl, sV_int, kT_2, kT_3, fSfSet_e, kSfS_o, kSfS'_o, kWh_t, kWh_f, kWh'_nx, fD1_e, kD1_o, kD1'_o, eq_self, Int.reduceLT, Int.reduceLE, Int.reduceEq, Int.reduceNeg, Bool.false_eq_true, if_false, Option.map_some, Option.map_none, List.map_cons, List.map_nil, List.length_cons, List.length_nil, List.cons_append, List.nil_append, Nat.reduceAdd, Nat.reduceSub, List.replicate_succ, List.replicate_zero, List.append_nil, List.getElem?_cons_zero, List.getElem?_cons_succ, List.set_cons_zero, List.set_cons_succ, if_true, reduceIte, decide_true, decide_false, Bool.not_true, Bool.not_false, tk (show (0 : Int) < 8 by decide), tk (show (0 : Int) < 2 by decide), gLen_l, List.length_map, gGt_i, gLt_i, gEq_int, c1, c2, c3, q] <;> rfl
        · refine ⟨.leaf .fa, takeR (takeR D), ?_, rfl, trivial, trivial⟩
          rw [p__law_atom]
          unfold liP
          simp only [b__law_atom, fSeq_e, kSeq_nx, kSeq_rt, kSeq_bk, kSeq_ct, kSeq_exc, fIfS_e, kIfS_t, kIfS_f, fNx_e, fBk_e, fCt_e, fRetN_e, fRet_e, kRet_o, fExpr_e, kExpr_o, kExpr_x, fSet_e, kSet_o, fC_e, fV_e, kV_val, kV_lst, kV_dct, kV_ins, fM_e, kM_o, fZ_e, kZ_o, kG_o, ov_e, fO2_e, kO2_o, kO2'_o, fO1_e, kO1_o, fIsi_e, fB_e, kB_o, fNot_e, kNot_o, fAnd_e, kAnd_t, kAnd_f, fOr_e, kOr_t, kOr_f, fAndV_e, kAndV_t, kAndV_f, fOrV_e, kOrV_t, kOrV_f, fNotV_e, kNotV_o, fIf_e, kIf_t, kIf_f, fA0_e, fA1_e, kA1_o, kA1'_o, vls_nil, vls_cons, kVls_o, fTup_e, kTup_o, kTup'_o, fLst_e, kLst_o, fCB_e, kCB_o, kCB'_o, frE_nil, frE_c, fPk_e, kPk_int, kPk_bl, kPk_str, kPk_non, fz_val, fz_lst, fz_dct, fz_ins, fzs_nil, fzs_cons, fCall_e, kCall_o, kCall'_o, kCall'_x, kPut_o, putB_nil, putB_cons, kB1_s, kB1_n, kB2_n, outs_nil, outs_cons, kOuts_o, kCons_o, kOut_o, fn_e, kFn_nx, kFn_rt, kFn_x, fFor_e, kFor_o, kFor_x, loop_nil, loop_cons, kLoop_o, kLoop_nx, kLoop_ct, kLoop_bk, kLoop_rt, fIt_e, kIt_l, kIt_t, fR1_e, kR1_o, fR2_e, kR2_o, fR3_e, kR3_o, fGn_e, fGt_e, fGs1_e, kGs_o, fGs0_e, fAsg_e, kAsg_o, kAsg'_o, isL_e, kL_l, fApp_e, kApp_o, kApp'_o, fExt_e, kExt_o, kExt'_o, fPop_e, kPop_l, kPop'_o, fRev_e, kRev_l, fP0_e, fP1_e, kP1_i, fSl_e, kSl_o, kSl1_o, kSl2_o, fSetL_e, kSL_o, kSL1_o, fLc_e, kLc_o, kLc'_o, wipe_nil, wipe_cons, lcl_nil, lcl_cons, kLc1_o, kLc2_t, kLc2_f, kLc3_o, fYes_e, fD0_e, fDput_e, kDp_o, kDp1_o, kO_int, kDp2_o, isD_e, kD_d, fForD_e, noXF_e, kFD_d, noX_o, fSf_e, kSf_1, isI_e, kI_0, fMeth_e, kMe_o, kMe1_o, kMe2_o, fRaise_e, kRet_x, kSet_x, kIfS_x, kLoop_x, kCall_x, kB_x, kNot_x, kO2_x, fTry_e, kTry_x, kTry1_t, kTry1_f, kTry_o, deadE_nil, deadE_v, deadE_n, deadE_l, deadE_d, deadE_i, fzKs_nil, fT0_e, fz_dtt, kV_dtt, fPkT_e, kPkT_o, fDictO_e, kDictO_d, isTT_e, kTT_d, fTput_e, kTp_o, kTp1_o, kTp2_o, sV_bl, sV_int, kT_2, kT_3, fSfSet_e, kSfS_o, kSfS'_o, kWh_t, kWh_f, kWh'_nx, fD1_e, kD1_o, kD1'_o, eq_self, Int.reduceLT, Int.reduceLE, Int.reduceEq, Int.reduceNeg, Bool.false_eq_true, if_false, Option.map_some, Option.map_none, List.map_cons, List.map_nil, List.length_cons, List.length_nil, List.cons_append, List.nil_append, Nat.reduceAdd, Nat.reduceSub, List.replicate_succ, List.replicate_zero, List.append_nil, List.getElem?_cons_zero, List.getElem?_cons_succ, List.set_cons_zero, List.set_cons_succ, if_true, reduceIte, decide_true, decide_false, Bool.not_true, Bool.not_false, tk (show (0 : Int) < 8 by decide), tk (show (0 : Int) < 2 by decide), gLen_l, List.length_map, gGt_i, gLt_i, gEq_int, c1, c2, c3, q] <;> rfl
      · rcases two (takeR D) with q | q
        · refine ⟨.leaf (.has (takeV (takeR (takeR D)) 2)), takeR (takeR (takeR D)), ?_, rfl, trivial, rg2 _⟩
          rw [p__law_atom]
          unfold liP
          simp only [b__law_atom, fSeq_e, kSeq_nx, kSeq_rt, kSeq_bk, kSeq_ct, kSeq_exc, fIfS_e, kIfS_t, kIfS_f, fNx_e, fBk_e, fCt_e, fRetN_e, fRet_e, kRet_o, fExpr_e, kExpr_o, kExpr_x, fSet_e, kSet_o, fC_e, fV_e, kV_val, kV_lst, kV_dct, kV_ins, fM_e, kM_o, fZ_e, kZ_o, kG_o, ov_e, fO2_e, kO2_o, kO2'_o, fO1_e, kO1_o, fIsi_e, fB_e, kB_o, fNot_e, kNot_o, fAnd_e, kAnd_t, kAnd_f, fOr_e, kOr_t, kOr_f, fAndV_e, kAndV_t, kAndV_f, fOrV_e, kOrV_t, kOrV_f, fNotV_e, kNotV_o, fIf_e, kIf_t, kIf_f, fA0_e, fA1_e, kA1_o, kA1'_o, vls_nil, vls_cons, kVls_o, fTup_e, kTup_o, kTup'_o, fLst_e, kLst_o, fCB_e, kCB_o, kCB'_o, frE_nil, frE_c, fPk_e, kPk_int, kPk_bl, kPk_str, kPk_non, fz_val, fz_lst, fz_dct, fz_ins, fzs_nil, fzs_cons, fCall_e, kCall_o, kCall'_o, kCall'_x, kPut_o, putB_nil, putB_cons, kB1_s, kB1_n, kB2_n, outs_nil, outs_cons, kOuts_o, kCons_o, kOut_o, fn_e, kFn_nx, kFn_rt, kFn_x, fFor_e, kFor_o, kFor_x, loop_nil, loop_cons, kLoop_o, kLoop_nx, kLoop_ct, kLoop_bk, kLoop_rt, fIt_e, kIt_l, kIt_t, fR1_e, kR1_o, fR2_e, kR2_o, fR3_e, kR3_o, fGn_e, fGt_e, fGs1_e, kGs_o, fGs0_e, fAsg_e, kAsg_o, kAsg'_o, isL_e, kL_l, fApp_e, kApp_o, kApp'_o, fExt_e, kExt_o, kExt'_o, fPop_e, kPop_l, kPop'_o, fRev_e, kRev_l, fP0_e, fP1_e, kP1_i, fSl_e, kSl_o, kSl1_o, kSl2_o, fSetL_e, kSL_o, kSL1_o, fLc_e, kLc_o, kLc'_o, wipe_nil, wipe_cons, lcl_nil, lcl_cons, kLc1_o, kLc2_t, kLc2_f, kLc3_o, fYes_e, fD0_e, fDput_e, kDp_o, kDp1_o, kO_int, kDp2_o, isD_e, kD_d, fForD_e, noXF_e, kFD_d, noX_o, fSf_e, kSf_1, isI_e, kI_0, fMeth_e, kMe_o, kMe1_o, kMe2_o, fRaise_e, kRet_x, kSet_x, kIfS_x, kLoop_x, kCall_x, kB_x, kNot_x, kO2_x, fTry_e, kTry_x, kTry1_t, kTry1_f, kTry_o, deadE_nil, deadE_v, deadE_n, deadE_l, deadE_d, deadE_i, fzKs_nil, fT0_e, fz_dtt, kV_dtt, fPkT_e, kPkT_o, fDictO_e, kDictO_d, isTT_e, kTT_d, fTput_e, kTp_o, kTp1_o, kTp2_o, sV_bl, sV_int, kT_2, kT_3, fSfSet_e, kSfS_o, kSfS'_o, kWh_t, kWh_f, kWh'_nx, fD1_e, kD1_o, kD1'_o, eq_self, Int.reduceLT, Int.reduceLE, Int.reduceEq, Int.reduceNeg, Bool.false_eq_true, if_false, Option.map_some, Option.map_none, List.map_cons, List.map_nil, List.length_cons, List.length_nil, List.cons_append, List.nil_append, Nat.reduceAdd, Nat.reduceSub, List.replicate_succ, List.replicate_zero, List.append_nil, List.getElem?_cons_zero, List.getElem?_cons_succ, List.set_cons_zero, List.set_cons_succ, if_true, reduceIte, decide_true, decide_false, Bool.not_true, Bool.not_false, tk (show (0 : Int) < 8 by decide), tk (show (0 : Int) < 2 by decide), gLen_l, List.length_map, gGt_i, gLt_i, gEq_int, c1, c2, c3, q, fz_str] <;> rfl
        · refine ⟨.leaf (.lacks (takeV (takeR (takeR D)) 2)), takeR (takeR (takeR D)), ?_, rfl, trivial, rg2 _⟩
          rw [p__law_atom]
          unfold liP
          simp only [b__law_atom, fSeq_e, kSeq_nx, kSeq_rt, kSeq_bk, kSeq_ct, kSeq_exc, fIfS_e, kIfS_t, kIfS_f, fNx_e, fBk_e, fCt_e, fRetN_e, fRet_e, kRet_o, fExpr_e, kExpr_o, kExpr_x, fSet_e, kSet_o, fC_e, fV_e, kV_val, kV_lst, kV_dct, kV_ins, fM_e, kM_o, fZ_e, kZ_o, kG_o, ov_e, fO2_e, kO2_o, kO2'_o, fO1_e, kO1_o, fIsi_e, fB_e, kB_o, fNot_e, kNot_o, fAnd_e, kAnd_t, kAnd_f, fOr_e, kOr_t, kOr_f, fAndV_e, kAndV_t, kAndV_f, fOrV_e, kOrV_t, kOrV_f, fNotV_e, kNotV_o, fIf_e, kIf_t, kIf_f, fA0_e, fA1_e, kA1_o, kA1'_o, vls_nil, vls_cons, kVls_o, fTup_e, kTup_o, kTup'_o, fLst_e, kLst_o, fCB_e, kCB_o, kCB'_o, frE_nil, frE_c, fPk_e, kPk_int, kPk_bl, kPk_str, kPk_non, fz_val, fz_lst, fz_dct, fz_ins, fzs_nil, fzs_cons, fCall_e, kCall_o, kCall'_o, kCall'_x, kPut_o, putB_nil, putB_cons, kB1_s, kB1_n, kB2_n, outs_nil, outs_cons, kOuts_o, kCons_o, kOut_o, fn_e, kFn_nx, kFn_rt, kFn_x, fFor_e, kFor_o, kFor_x, loop_nil, loop_cons, kLoop_o, kLoop_nx, kLoop_ct, kLoop_bk, kLoop_rt, fIt_e, kIt_l, kIt_t, fR1_e, kR1_o, fR2_e, kR2_o, fR3_e, kR3_o, fGn_e, fGt_e, fGs1_e, kGs_o, fGs0_e, fAsg_e, kAsg_o, kAsg'_o, isL_e, kL_l, fApp_e, kApp_o, kApp'_o, fExt_e, kExt_o, kExt'_o, fPop_e, kPop_l, kPop'_o, fRev_e, kRev_l, fP0_e, fP1_e, kP1_i, fSl_e, kSl_o, kSl1_o, kSl2_o, fSetL_e, kSL_o, kSL1_o, fLc_e, kLc_o, kLc'_o, wipe_nil, wipe_cons, lcl_nil, lcl_cons, kLc1_o, kLc2_t, kLc2_f, kLc3_o, fYes_e, fD0_e, fDput_e, kDp_o, kDp1_o, kO_int, kDp2_o, isD_e, kD_d, fForD_e, noXF_e, kFD_d, noX_o, fSf_e, kSf_1, isI_e, kI_0, fMeth_e, kMe_o, kMe1_o, kMe2_o, fRaise_e, kRet_x, kSet_x, kIfS_x, kLoop_x, kCall_x, kB_x, kNot_x, kO2_x, fTry_e, kTry_x, kTry1_t, kTry1_f, kTry_o, deadE_nil, deadE_v, deadE_n, deadE_l, deadE_d, deadE_i, fzKs_nil, fT0_e, fz_dtt, kV_dtt, fPkT_e, kPkT_o, fDictO_e, kDictO_d, isTT_e, kTT_d, fTput_e, kTp_o, kTp1_o, kTp2_o, sV_bl, sV_int, kT_2, kT_3, fSfSet_e, kSfS_o, kSfS'_o, kWh_t, kWh_f, kWh'_nx, fD1_e, kD1_o, kD1'_o, eq_self, Int.reduceLT, Int.reduceLE, Int.reduceEq, Int.reduceNeg, Bool.false_eq_true, if_false, Option.map_some, Option.map_none, List.map_cons, List.map_nil, List.length_cons, List.length_nil, List.cons_append, List.nil_append, Nat.reduceAdd, Nat.reduceSub, List.replicate_succ, List.replicate_zero, List.append_nil, List.getElem?_cons_zero, List.getElem?_cons_succ, List.set_cons_zero, List.set_cons_succ, if_true, reduceIte, decide_true, decide_false, Bool.not_true, Bool.not_false, tk (show (0 : Int) < 8 by decide), tk (show (0 : Int) < 2 by decide), gLen_l, List.length_map, gGt_i, gLt_i, gEq_int, c1, c2, c3, q, fz_str'] <;> rfl
  · by_cases c3 : takeV D 8 = 5
    · rcases two (takeR D) with q | q
      · refine ⟨.leaf .tr, takeR (takeR D), ?_, rfl, trivial, trivial⟩
        rw [p__law_atom]
        unfold liP
        simp only [b__law_atom, fSeq_e, kSeq_nx, kSeq_rt, kSeq_bk, kSeq_ct, kSeq_exc, fIfS_e, kIfS_t, kIfS_f, fNx_e, fBk_e, fCt_e, fRetN_e, fRet_e, kRet_o, fExpr_e, kExpr_o, kExpr_x, fSet_e, kSet_o, fC_e, fV_e, kV_val, kV_lst, kV_dct, kV_ins, fM_e, kM_o, fZ_e, kZ_o, kG_o, ov_e, fO2_e, kO2_o, kO2'_o, fO1_e, kO1_o, fIsi_e, fB_e, kB_o, fNot_e, kNot_o, fAnd_e, kAnd_t, kAnd_f, fOr_e, kOr_t, kOr_f, fAndV_e, kAndV_t, kAndV_f, fOrV_e, kOrV_t, kOrV_f, fNotV_e, kNotV_o, fIf_e, kIf_t, kIf_f, fA0_e, fA1_e, kA1_o, kA1'_o, vls_nil, vls_cons, kVls_o, fTup_e, kTup_o, kTup'_o, fLst_e, kLst_o, fCB_e, kCB_o, kCB'_o, frE_nil, frE_c, fPk_e, kPk_int, kPk_bl, kPk_str, kPk_non, fz_val, fz_lst, fz_dct, fz_ins, fzs_nil, fzs_cons, fCall_e, kCall_o, kCall'_o, kCall'_x, kPut_o, putB_nil, putB_cons, kB1_s, kB1_n, kB2_n, outs_nil, outs_cons, kOuts_o, kCons_o, kOut_o, fn_e, kFn_nx, kFn_rt, kFn_x, fFor_e, kFor_o, kFor_x, loop_nil, loop_cons, kLoop_o, kLoop_nx, kLoop_ct, kLoop_bk, kLoop_rt, fIt_e, kIt_l, kIt_t, fR1_e, kR1_o, fR2_e, kR2_o, fR3_e, kR3_o, fGn_e, fGt_e, fGs1_e, kGs_o, fGs0_e, fAsg_e, kAsg_o, kAsg'_o, isL_e, kL_l, fApp_e, kApp_o, kApp'_o, fExt_e, kExt_o, kExt'_o, fPop_e, kPop_l, kPop'_o, fRev_e, kRev_l, fP0_e, fP1_e, kP1_i, fSl_e, kSl_o, kSl1_o, kSl2_o, fSetL_e, kSL_o, kSL1_o, fLc_e, kLc_o, kLc'_o, wipe_nil, wipe_cons, lcl_nil, lcl_cons, kLc1_o, kLc2_t, kLc2_f, kLc3_o, fYes_e, fD0_e, fDput_e, kDp_o, kDp1_o, kO_int, kDp2_o, isD_e, kD_d, fForD_e, noXF_e, kFD_d, noX_o, fSf_e, kSf_1, isI_e, kI_0, fMeth_e, kMe_o, kMe1_o, kMe2_o, fRaise_e, kRet_x, kSet_x, kIfS_x, kLoop_x, kCall_x, kB_x, kNot_x, kO2_x, fTry_e, kTry_x, kTry1_t, kTry1_f, kTry_o, deadE_nil, deadE_v, deadE_n, deadE_l, deadE_d, deadE_i, fzKs_nil, fT0_e, fz_dtt, kV_dtt, fPkT_e, kPkT_o, fDictO_e, kDictO_d, isTT_e, kTT_d, fTput_e, kTp_o, kTp1_o, kTp2_o, sV_bl, sV_int, kT_2, kT_3, fSfSet_e, kSfS_o, kSfS'_o, kWh_t, kWh_f, kWh'_nx, fD1_e, kD1_o, kD1'_o, eq_self, Int.reduceLT, Int.reduceLE, Int.reduceEq, Int.reduceNeg, Bool.false_eq_true, if_false, Option.map_some, Option.map_none, List.map_cons, List.map_nil, List.length_cons, List.length_nil, List.cons_append, List.nil_append, Nat.reduceAdd, Nat.reduceSub, List.replicate_succ, List.replicate_zero, List.append_nil, List.getElem?_cons_zero, List.getElem?_cons_succ, List.set_cons_zero, List.set_cons_succ, if_true, reduceIte, decide_true, decide_false, Bool.not_true, Bool.not_false, tk (show (0 : Int) < 8 by decide), tk (show (0 : Int) < 2 by decide), gLen_l, List.length_map, gGt_i, gLt_i, gEq_int, c1, c3, q] <;> rfl
      · refine ⟨.leaf .fa, takeR (takeR D), ?_, rfl, trivial, trivial⟩
        rw [p__law_atom]
        unfold liP
        simp only [b__law_atom, fSeq_e, kSeq_nx, kSeq_rt, kSeq_bk, kSeq_ct, kSeq_exc, fIfS_e, kIfS_t, kIfS_f, fNx_e, fBk_e, fCt_e, fRetN_e, fRet_e, kRet_o, fExpr_e, kExpr_o, kExpr_x, fSet_e, kSet_o, fC_e, fV_e, kV_val, kV_lst, kV_dct, kV_ins, fM_e, kM_o, fZ_e, kZ_o, kG_o, ov_e, fO2_e, kO2_o, kO2'_o, fO1_e, kO1_o, fIsi_e, fB_e, kB_o, fNot_e, kNot_o, fAnd_e, kAnd_t, kAnd_f, fOr_e, kOr_t, kOr_f, fAndV_e, kAndV_t, kAndV_f, fOrV_e, kOrV_t, kOrV_f, fNotV_e, kNotV_o, fIf_e, kIf_t, kIf_f, fA0_e, fA1_e, kA1_o, kA1'_o, vls_nil, vls_cons, kVls_o, fTup_e, kTup_o, kTup'_o, fLst_e, kLst_o, fCB_e, kCB_o, kCB'_o, frE_nil, frE_c, fPk_e, kPk_int, kPk_bl, kPk_str, kPk_non, fz_val, fz_lst, fz_dct, fz_ins, fzs_nil, fzs_cons, fCall_e, kCall_o, kCall'_o, kCall'_x, kPut_o, putB_nil, putB_cons, kB1_s, kB1_n, kB2_n, outs_nil, outs_cons, kOuts_o, kCons_o, kOut_o, fn_e, kFn_nx, kFn_rt, kFn_x, fFor_e, kFor_o, kFor_x, loop_nil, loop_cons, kLoop_o, kLoop_nx, kLoop_ct, kLoop_bk, kLoop_rt, fIt_e, kIt_l, kIt_t, fR1_e, kR1_o, fR2_e, kR2_o, fR3_e, kR3_o, fGn_e, fGt_e, fGs1_e, kGs_o, fGs0_e, fAsg_e, kAsg_o, kAsg'_o, isL_e, kL_l, fApp_e, kApp_o, kApp'_o, fExt_e, kExt_o, kExt'_o, fPop_e, kPop_l, kPop'_o, fRev_e, kRev_l, fP0_e, fP1_e, kP1_i, fSl_e, kSl_o, kSl1_o, kSl2_o, fSetL_e, kSL_o, kSL1_o, fLc_e, kLc_o, kLc'_o, wipe_nil, wipe_cons, lcl_nil, lcl_cons, kLc1_o, kLc2_t, kLc2_f, kLc3_o, fYes_e, fD0_e, fDput_e, kDp_o, kDp1_o, kO_int, kDp2_o, isD_e, kD_d, fForD_e, noXF_e, kFD_d, noX_o, fSf_e, kSf_1, isI_e, kI_0, fMeth_e, kMe_o, kMe1_o, kMe2_o, fRaise_e, kRet_x, kSet_x, kIfS_x, kLoop_x, kCall_x, kB_x, kNot_x, kO2_x, fTry_e, kTry_x, kTry1_t, kTry1_f, kTry_o, deadE_nil, deadE_v, deadE_n, deadE_l, deadE_d, deadE_i, fzKs_nil, fT0_e, fz_dtt, kV_dtt, fPkT_e, kPkT_o, fDictO_e, kDictO_d, isTT_e, kTT_d, fTput_e, kTp_o, kTp1_o, kTp2_o, sV_bl, sV_int, kT_2, kT_3, fSfSet_e, kSfS_o, kSfS'_o, kWh_t, kWh_f, kWh'_nx, fD1_e, kD1_o, kD1'_o, eq_self, Int.reduceLT, Int.reduceLE, Int.reduceEq, Int.reduceNeg, Bool.false_eq_true, if_false, Option.map_some, Option.map_none, List.map_cons, List.map_nil, List.length_cons, List.length_nil, List.cons_append, List.nil_append, Nat.reduceAdd, Nat.reduceSub, List.replicate_succ, List.replicate_zero, List.append_nil, List.getElem?_cons_zero, List.getElem?_cons_succ, List.set_cons_zero, List.set_cons_succ, if_true, reduceIte, decide_true, decide_false, Bool.not_true, Bool.not_false, tk (show (0 : Int) < 8 by decide), tk (show (0 : Int) < 2 by decide), gLen_l, List.length_map, gGt_i, gLt_i, gEq_int, c1, c3, q] <;> rfl
    · rcases two (takeR D) with q | q
      · refine ⟨.leaf (.has (takeV (takeR (takeR D)) 2)), takeR (takeR (takeR D)), ?_, rfl, trivial, rg2 _⟩
        rw [p__law_atom]
        unfold liP
        simp only [b__law_atom, fSeq_e, kSeq_nx, kSeq_rt, kSeq_bk, kSeq_ct, kSeq_exc, fIfS_e, kIfS_t, kIfS_f, fNx_e, fBk_e, fCt_e, fRetN_e, fRet_e, kRet_o, fExpr_e, kExpr_o, kExpr_x, fSet_e, kSet_o, fC_e, fV_e, kV_val, kV_lst, kV_dct, kV_ins, fM_e, kM_o, fZ_e, kZ_o, kG_o, ov_e, fO2_e, kO2_o, kO2'_o, fO1_e, kO1_o, fIsi_e, fB_e, kB_o, fNot_e, kNot_o, fAnd_e, kAnd_t, kAnd_f, fOr_e, kOr_t, kOr_f, fAndV_e, kAndV_t, kAndV_f, fOrV_e, kOrV_t, kOrV_f, fNotV_e, kNotV_o, fIf_e, kIf_t, kIf_f, fA0_e, fA1_e, kA1_o, kA1'_o, vls_nil, vls_cons, kVls_o, fTup_e, kTup_o, kTup'_o, fLst_e, kLst_o, fCB_e, kCB_o, kCB'_o, frE_nil, frE_c, fPk_e, kPk_int, kPk_bl, kPk_str, kPk_non, fz_val, fz_lst, fz_dct, fz_ins, fzs_nil, fzs_cons, fCall_e, kCall_o, kCall'_o, kCall'_x, kPut_o, putB_nil, putB_cons, kB1_s, kB1_n, kB2_n, outs_nil, outs_cons, kOuts_o, kCons_o, kOut_o, fn_e, kFn_nx, kFn_rt, kFn_x, fFor_e, kFor_o, kFor_x, loop_nil, loop_cons, kLoop_o, kLoop_nx, kLoop_ct, kLoop_bk, kLoop_rt, fIt_e, kIt_l, kIt_t, fR1_e, kR1_o, fR2_e, kR2_o, fR3_e, kR3_o, fGn_e, fGt_e, fGs1_e, kGs_o, fGs0_e, fAsg_e, kAsg_o, kAsg'_o, isL_e, kL_l, fApp_e, kApp_o, kApp'_o, fExt_e, kExt_o, kExt'_o, fPop_e, kPop_l, kPop'_o, fRev_e, kRev_l, fP0_e, fP1_e, kP1_i, fSl_e, kSl_o, kSl1_o, kSl2_o, fSetL_e, kSL_o, kSL1_o, fLc_e, kLc_o, kLc'_o, wipe_nil, wipe_cons, lcl_nil, lcl_cons, kLc1_o, kLc2_t, kLc2_f, kLc3_o, fYes_e, fD0_e, fDput_e, kDp_o, kDp1_o, kO_int, kDp2_o, isD_e, kD_d, fForD_e, noXF_e, kFD_d, noX_o, fSf_e, kSf_1, isI_e, kI_0, fMeth_e, kMe_o, kMe1_o, kMe2_o, fRaise_e, kRet_x, kSet_x, kIfS_x, kLoop_x, kCall_x, kB_x, kNot_x, kO2_x, fTry_e, kTry_x, kTry1_t, kTry1_f, kTry_o, deadE_nil, deadE_v, deadE_n, deadE_l, deadE_d, deadE_i, fzKs_nil, fT0_e, fz_dtt, kV_dtt, fPkT_e, kPkT_o, fDictO_e, kDictO_d, isTT_e, kTT_d, fTput_e, kTp_o, kTp1_o, kTp2_o, sV_bl, sV_int, kT_2, kT_3, fSfSet_e, kSfS_o, kSfS'_o, kWh_t, kWh_f, kWh'_nx, fD1_e, kD1_o, kD1'_o, eq_self, Int.reduceLT, Int.reduceLE, Int.reduceEq, Int.reduceNeg, Bool.false_eq_true, if_false, Option.map_some, Option.map_none, List.map_cons, List.map_nil, List.length_cons, List.length_nil, List.cons_append, List.nil_append, Nat.reduceAdd, Nat.reduceSub, List.replicate_succ, List.replicate_zero, List.append_nil, List.getElem?_cons_zero, List.getElem?_cons_succ, List.set_cons_zero, List.set_cons_succ, if_true, reduceIte, decide_true, decide_false, Bool.not_true, Bool.not_false, tk (show (0 : Int) < 8 by decide), tk (show (0 : Int) < 2 by decide), gLen_l, List.length_map, gGt_i, gLt_i, gEq_int, c1, c3, q, fz_str] <;> rfl
      · refine ⟨.leaf (.lacks (takeV (takeR (takeR D)) 2)), takeR (takeR (takeR D)), ?_, rfl, trivial, rg2 _⟩
        rw [p__law_atom]
        unfold liP
        simp only [b__law_atom, fSeq_e, kSeq_nx, kSeq_rt, kSeq_bk, kSeq_ct, kSeq_exc, fIfS_e, kIfS_t, kIfS_f, fNx_e, fBk_e, fCt_e, fRetN_e, fRet_e, kRet_o, fExpr_e, kExpr_o, kExpr_x, fSet_e, kSet_o, fC_e, fV_e, kV_val, kV_lst, kV_dct, kV_ins, fM_e, kM_o, fZ_e, kZ_o, kG_o, ov_e, fO2_e, kO2_o, kO2'_o, fO1_e, kO1_o, fIsi_e, fB_e, kB_o, fNot_e, kNot_o, fAnd_e, kAnd_t, kAnd_f, fOr_e, kOr_t, kOr_f, fAndV_e, kAndV_t, kAndV_f, fOrV_e, kOrV_t, kOrV_f, fNotV_e, kNotV_o, fIf_e, kIf_t, kIf_f, fA0_e, fA1_e, kA1_o, kA1'_o, vls_nil, vls_cons, kVls_o, fTup_e, kTup_o, kTup'_o, fLst_e, kLst_o, fCB_e, kCB_o, kCB'_o, frE_nil, frE_c, fPk_e, kPk_int, kPk_bl, kPk_str, kPk_non, fz_val, fz_lst, fz_dct, fz_ins, fzs_nil, fzs_cons, fCall_e, kCall_o, kCall'_o, kCall'_x, kPut_o, putB_nil, putB_cons, kB1_s, kB1_n, kB2_n, outs_nil, outs_cons, kOuts_o, kCons_o, kOut_o, fn_e, kFn_nx, kFn_rt, kFn_x, fFor_e, kFor_o, kFor_x, loop_nil, loop_cons, kLoop_o, kLoop_nx, kLoop_ct, kLoop_bk, kLoop_rt, fIt_e, kIt_l, kIt_t, fR1_e, kR1_o, fR2_e, kR2_o, fR3_e, kR3_o, fGn_e, fGt_e, fGs1_e, kGs_o, fGs0_e, fAsg_e, kAsg_o, kAsg'_o, isL_e, kL_l, fApp_e, kApp_o, kApp'_o, fExt_e, kExt_o, kExt'_o, fPop_e, kPop_l, kPop'_o, fRev_e, kRev_l, fP0_e, fP1_e, kP1_i, fSl_e, kSl_o, kSl1_o, kSl2_o, fSetL_e, kSL_o, kSL1_o, fLc_e, kLc_o, kLc'_o, wipe_nil, wipe_cons, lcl_nil, lcl_cons, kLc1_o, kLc2_t, kLc2_f, kLc3_o, fYes_e, fD0_e, fDput_e, kDp_o, kDp1_o, kO_int, kDp2_o, isD_e, kD_d, fForD_e, noXF_e, kFD_d, noX_o, fSf_e, kSf_1, isI_e, kI_0, fMeth_e, kMe_o, kMe1_o, kMe2_o, fRaise_e, kRet_x, kSet_x, kIfS_x, kLoop_x, kCall_x, kB_x, kNot_x, kO2_x, fTry_e, kTry_x, kTry1_t, kTry1_f, kTry_o, deadE_nil, deadE_v, deadE_n, deadE_l, deadE_d, deadE_i, fzKs_nil, fT0_e, fz_dtt, kV_dtt, fPkT_e, kPkT_o, fDictO_e, kDictO_d, isTT_e, kTT_d, fTput_e, kTp_o, kTp1_o, kTp2_o, sV_bl, sV_int, kT_2, kT_3, fSfSet_e, kSfS_o, kSfS'_o, kWh_t, kWh_f, kWh'_nx, fD1_e, kD1_o, kD1'_o, eq_self, Int.reduceLT, Int.reduceLE, Int.reduceEq, Int.reduceNeg, Bool.false_eq_true, if_false, Option.map_some, Option.map_none, List.map_cons, List.map_nil, List.length_cons, List.length_nil, List.cons_append, List.nil_append, Nat.reduceAdd, Nat.reduceSub, List.replicate_succ, List.replicate_zero, List.append_nil, List.getElem?_cons_zero, List.getElem?_cons_succ, List.set_cons_zero, List.set_cons_succ, if_true, reduceIte, decide_true, decide_false, Bool.not_true, Bool.not_false, tk (show (0 : Int) < 8 by decide), tk (show (0 : Int) < 2 by decide), gLen_l, List.length_map, gGt_i, gLt_i, gEq_int, c1, c3, q, fz_str'] <;> rfl
/-- the numbers but one -/
theorem lc_ne (v : Int) (w : List Int) (a0 a1 a2 a3 a4 a5 a6 a7 a9 a11 : Option OV) :
    fLcL [10] (fGn 10) (fB (fO2 gNe (fV 10) (fV 8))) (fV 10) (w.map PV.int) [] [a0, a1, a2, a3, a4, a5, a6, a7, some (.val (.int v)), a9, none, a11] = .ok (((w.filter fun x => !decide (x = v)).map PV.int).map .val, [a0, a1, a2, a3, a4, a5, a6, a7, some (.val (.int v)), a9, none, a11]) := by
  rw [lcL_eq (cnd := fun p => match p with | .int x => !decide (x = v) | _ => false) (el := .val) fun p hp => ?_]
  · rw [List.nil_append, List.filter_map]
    rfl
  · obtain ⟨x, _, rfl⟩ := List.mem_map.mp hp
    refine ⟨[a0, a1, a2, a3, a4, a5, a6, a7, some (.val (.int v)), a9, some (.val (.int x)), a11], [a0, a1, a2, a3, a4, a5, a6, a7, some (.val (.int v)), a9, some (.val (.int x)), a11], rfl, ?_, fun _ => rfl, fun _ => ⟨[a0, a1, a2, a3, a4, a5, a6, a7, some (.val (.int v)), a9, some (.val (.int x)), a11], rfl, rfl⟩⟩
    simp only [fSeq_e, kSeq_nx, kSeq_rt, kSeq_bk, kSeq_ct, kSeq_exc, fIfS_e, kIfS_t, kIfS_f, fNx_e, fBk_e, fCt_e, fRetN_e, fRet_e, kRet_o, fExpr_e, kExpr_o, kExpr_x, fSet_e, kSet_o, fC_e, fV_e, kV_val, kV_lst, kV_dct, kV_ins, fM_e, kM_o, fZ_e, kZ_o, kG_o, ov_e, fO2_e, kO2_o, kO2'_o, fO1_e, kO1_o, fIsi_e, fB_e, kB_o, fNot_e, kNot_o, fAnd_e, kAnd_t, kAnd_f, fOr_e, kOr_t, kOr_f, fAndV_e, kAndV_t, kAndV_f, fOrV_e, kOrV_t, kOrV_f, fNotV_e, kNotV_o, fIf_e, kIf_t, kIf_f, fA0_e, fA1_e, kA1_o, kA1'_o, vls_nil, vls_cons, kVls_o, fTup_e, kTup_o, kTup'_o, fLst_e, kLst_o, fCB_e, kCB_o, kCB'_o, frE_nil, frE_c, fPk_e, kPk_int, kPk_bl, kPk_str, kPk_non, fz_val, fz_lst, fz_dct, fz_ins, fzs_nil, fzs_cons, fCall_e, kCall_o, kCall'_o, kCall'_x, kPut_o, putB_nil, putB_cons, kB1_s, kB1_n, kB2_n, outs_nil, outs_cons, kOuts_o, kCons_o, kOut_o, fn_e, kFn_nx, kFn_rt, kFn_x, fFor_e, kFor_o, kFor_x, loop_nil, loop_cons, kLoop_o, kLoop_nx, kLoop_ct, kLoop_bk, kLoop_rt, fIt_e, kIt_l, kIt_t, fR1_e, kR1_o, fR2_e, kR2_o, fR3_e, kR3_o, fGn_e, fGt_e, fGs1_e, kGs_o, fGs0_e, fAsg_e, kAsg_o, kAsg'_o, isL_e, kL_l, fApp_e, kApp_o, kApp'_o, fExt_e, kExt_o, kExt'_o, fPop_e, kPop_l, kPop'_o, fRev_e, kRev_l, fP0_e, fP1_e, kP1_i, fSl_e, kSl_o, kSl1_o, kSl2_o, fSetL_e, kSL_o, kSL1_o, fLc_e, kLc_o, kLc'_o, wipe_nil, wipe_cons, lcl_nil, lcl_cons, kLc1_o, kLc2_t, kLc2_f, kLc3_o, fYes_e, fD0_e, fDput_e, kDp_o, kDp1_o, kO_int, kDp2_o, isD_e, kD_d, fForD_e, noXF_e, kFD_d, noX_o, fSf_e, kSf_1, isI_e, kI_0, fMeth_e, kMe_o, kMe1_o, kMe2_o, fRaise_e, kRet_x, kSet_x, kIfS_x, kLoop_x, kCall_x, kB_x, kNot_x, kO2_x, fTry_e, kTry_x, kTry1_t, kTry1_f, kTry_o, deadE_nil, deadE_v, deadE_n, deadE_l, deadE_d, deadE_i, fzKs_nil, fT0_e, fz_dtt, kV_dtt, fPkT_e, kPkT_o, fDictO_e, kDictO_d, isTT_e, kTT_d, fTput_e, kTp_o, kTp1_o, kTp2_o, sV_bl, sV_int, kT_2, kT_3, fSfSet_e, kSfS_o, kSfS'_o, kWh_t, kWh_f, kWh'_nx, fD1_e, kD1_o, kD1'_o, eq_self, Int.reduceLT, Int.reduceLE, Int.reduceEq, Int.reduceNeg, Bool.false_eq_true, if_false, Option.map_some, Option.map_none, List.map_cons, List.map_nil, List.length_cons, List.length_nil, List.cons_append, List.nil_append, Nat.reduceAdd, Nat.reduceSub, List.replicate_succ, List.replicate_zero, List.append_nil, List.getElem?_cons_zero, List.getElem?_cons_succ, List.set_cons_zero, List.set_cons_succ, if_true, reduceIte, decide_true, decide_false, Bool.not_true, Bool.not_false, gNe_int]
theorem ao_0 : gIx (.lst [.str z_and, .str z_or]) (.int 0) = .ok (.val (.str z_and)) := rfl
theorem ao_1 : gIx (.lst [.str z_and, .str z_or]) (.int 1) = .ok (.val (.str z_or)) := rfl
theorem sa_0 : gIx (.lst [.str z_some, .str z_all]) (.int 0) = .ok (.val (.str z_some)) := rfl
theorem sa_1 : gIx (.lst [.str z_some, .str z_all]) (.int 1) = .ok (.val (.str z_all)) := rfl
theorem lm_0 : gIx (.lst [.str z_least, .str z_most]) (.int 0) = .ok (.val (.str z_least)) := rfl
theorem lm_1 : gIx (.lst [.str z_least, .str z_most]) (.int 1) = .ok (.val (.str z_most)) := rfl
/-- the kinds as drawn -/
theorem lm_b (D : List Int) : ∃ o : Bool, gIx (.lst [.str z_least, .str z_most]) (.int (takeV D 2)) = .ok (.val (.str (sFix o))) := by
  rcases two D with q | q
  · exact ⟨false, by rw [q]; rfl⟩
  · exact ⟨true, by rw [q]; rfl⟩
theorem sa_b (D : List Int) : ∃ o : Bool, gIx (.lst [.str z_some, .str z_all]) (.int (takeV D 2)) = .ok (.val (.str (sMod o))) := by
  rcases two D with q | q
  · exact ⟨false, by rw [q]; rfl⟩
  · exact ⟨true, by rw [q]; rfl⟩
theorem nm_b (D : List Int) : ∃ v : Int, (0 ≤ v ∧ v ≤ 7) ∧ gIx (.lst [.int 0, .int 1, .int 2, .int 7]) (.int (takeV D 4)) = .ok (.val (.int v)) := by
  rcases four D with q | q | q | q
  · exact ⟨0, by omega, by rw [q]; rfl⟩
  · exact ⟨1, by omega, by rw [q]; rfl⟩
  · exact ⟨2, by omega, by rw [q]; rfl⟩
  · exact ⟨7, by omega, by rw [q]; rfl⟩
theorem len_filter (w : List Int) (p : Int → Bool) : (w.filter p).length ≤ w.length := List.length_filter_le _ _
theorem statement_eq : ∀ (d n : Nat) (D w r : List Int) (loose : Bool), d + 3 ≤ n → w.length + r.length + d ≤ 1000 → (∀ x ∈ r ++ w, 0 ≤ x ∧ x ≤ 7) → ∃ s D', prog n i__law_statement [encD D, .val (.int (d : Int)), .val (liP w), .val (liP r), .val (.bl loose)] = .ok (.val (Fm.enc s), [encD D']) ∧ s.ht ≤ d ∧ Fm.fin (r ++ w) s ∧ Fm.nn s := by
  intro d
  induction d with
  | zero =>
    intro n D w r loose hn hl h7
    obtain ⟨m, rfl⟩ : ∃ m, n = m + 3 := ⟨n - 3, by omega⟩
    obtain ⟨s, D', e, h1, h2, h3⟩ := atom_eq m (takeR D) r fun x hx => h7 x (List.mem_append_left _ hx)
    refine ⟨s, D', ?_, by omega, Fm.fin_mono (fun x hx => List.mem_append_left _ hx) h2, h3⟩
    have e0 : decide (((0 : Nat) : Int) = 0) = true := rfl
    rw [p__law_statement]
    unfold liP at e ⊢
    simp only [b__law_statement, fSeq_e, kSeq_nx, kSeq_rt, kSeq_bk, kSeq_ct, kSeq_exc, fIfS_e, kIfS_t, kIfS_f, fNx_e, fBk_e, fCt_e, fRetN_e, fRet_e, kRet_o, fExpr_e, kExpr_o, kExpr_x, fSet_e, kSet_o, fC_e, fV_e, kV_val, kV_lst, kV_dct, kV_ins, fM_e, kM_o, fZ_e, kZ_o, kG_o, ov_e, fO2_e, kO2_o, kO2'_o, fO1_e, kO1_o, fIsi_e, fB_e, kB_o, fNot_e, kNot_o, fAnd_e, kAnd_t, kAnd_f, fOr_e, kOr_t, kOr_f, fAndV_e, kAndV_t, kAndV_f, fOrV_e, kOrV_t, kOrV_f, fNotV_e, kNotV_o, fIf_e, kIf_t, kIf_f, fA0_e, fA1_e, kA1_o, kA1'_o, vls_nil, vls_cons, kVls_o, fTup_e, kTup_o, kTup'_o, fLst_e, kLst_o, fCB_e, kCB_o, kCB'_o, frE_nil, frE_c, fPk_e, kPk_int, kPk_bl, kPk_str, kPk_non, fz_val, fz_lst, fz_dct, fz_ins, fzs_nil, fzs_cons, fCall_e, kCall_o, kCall'_o, kCall'_x, kPut_o, putB_nil, putB_cons, kB1_s, kB1_n, kB2_n, outs_nil, outs_cons, kOuts_o, kCons_o, kOut_o, fn_e, kFn_nx, kFn_rt, kFn_x, fFor_e, kFor_o, kFor_x, loop_nil, loop_cons, kLoop_o, kLoop_nx, kLoop_ct, kLoop_bk, kLoop_rt, fIt_e, kIt_l, kIt_t, fR1_e, kR1_o, fR2_e, kR2_o, fR3_e, kR3_o, fGn_e, fGt_e, fGs1_e, kGs_o, fGs0_e, fAsg_e, kAsg_o, kAsg'_o, isL_e, kL_l, fApp_e, kApp_o, kApp'_o, fExt_e, kExt_o, kExt'_o, fPop_e, kPop_l, kPop'_o, fRev_e, kRev_l, fP0_e, fP1_e, kP1_i, fSl_e, kSl_o, kSl1_o, kSl2_o, fSetL_e, kSL_o, kSL1_o, fLc_e, kLc_o, kLc'_o, wipe_nil, wipe_cons, lcl_nil, lcl_cons, kLc1_o, kLc2_t, kLc2_f, kLc3_o, fYes_e, fD0_e, fDput_e, kDp_o, kDp1_o, kO_int, kDp2_o, isD_e, kD_d, fForD_e, noXF_e, kFD_d, noX_o, fSf_e, kSf_1, isI_e, kI_0, fMeth_e, kMe_o, kMe1_o, kMe2_o, fRaise_e, kRet_x, kSet_x, kIfS_x, kLoop_x, kCall_x, kB_x, kNot_x, kO2_x, fTry_e, kTry_x, kTry1_t, kTry1_f, kTry_o, deadE_nil, deadE_v, deadE_n, deadE_l, deadE_d, deadE_i, fzKs_nil, fT0_e, fz_dtt, kV_dtt, fPkT_e, kPkT_o, fDictO_e, kDictO_d, isTT_e, kTT_d, fTput_e, kTp_o, kTp1_o, kTp2_o, sV_bl, sV_int, kT_2, kT_3, fSfSet_e, kSfS_o, kSfS'_o, kWh_t, kWh_f, kWh'_nx, fD1_e, kD1_o, kD1'_o, eq_self, Int.reduceLT, Int.reduceLE, Int.reduceEq, Int.reduceNeg, Bool.false_eq_true, if_false, Option.map_some, Option.map_none, List.map_cons, List.map_nil, List.length_cons, List.length_nil, List.cons_append, List.nil_append, Nat.reduceAdd, Nat.reduceSub, List.replicate_succ, List.replicate_zero, List.append_nil, List.getElem?_cons_zero, List.getElem?_cons_succ, List.set_cons_zero, List.set_cons_succ, if_true, reduceIte, decide_true, decide_false, Bool.not_true, Bool.not_false, tk (show (0 : Int) < 12 by decide), gEq_int, e0, e]
  | succ d ih =>
    intro n D w r loose hn hl h7
    obtain ⟨m, rfl⟩ : ∃ m, n = m + 3 := ⟨n - 3, by omega⟩
    have e0 : decide (((d + 1 : Nat) : Int) = 0) = false := by simp; omega
    have e1 : (((d + 1 : Nat) : Int)) - 1 = (d : Int) := by omega
    by_cases c0 : takeV D 12 = 0
    · obtain ⟨s, D', e, h1, h2, h3⟩ := atom_eq m (takeR D) r fun x hx => h7 x (List.mem_append_left _ hx)
      refine ⟨s, D', ?_, by omega, Fm.fin_mono (fun x hx => List.mem_append_left _ hx) h2, h3⟩
      rw [p__law_statement]
      unfold liP at e ⊢
      simp only [b__law_statement, fSeq_e, kSeq_nx, kSeq_rt, kSeq_bk, kSeq_ct, kSeq_exc, fIfS_e, kIfS_t, kIfS_f, fNx_e, fBk_e, fCt_e, fRetN_e, fRet_e, kRet_o, fExpr_e, kExpr_o, kExpr_x, fSet_e, kSet_o, fC_e, fV_e, kV_val, kV_lst, kV_dct, kV_ins, fM_e, kM_o, fZ_e, kZ_o, kG_o, ov_e, fO2_e, kO2_o, kO2'_o, fO1_e, kO1_o, fIsi_e, fB_e, kB_o, fNot_e, kNot_o, fAnd_e, kAnd_t, kAnd_f, fOr_e, kOr_t, kOr_f, fAndV_e, kAndV_t, kAndV_f, fOrV_e, kOrV_t, kOrV_f, fNotV_e, kNotV_o, fIf_e, kIf_t, kIf_f, fA0_e, fA1_e, kA1_o, kA1'_o, vls_nil, vls_cons, kVls_o, fTup_e, kTup_o, kTup'_o, fLst_e, kLst_o, fCB_e, kCB_o, kCB'_o, frE_nil, frE_c, fPk_e, kPk_int, kPk_bl, kPk_str, kPk_non, fz_val, fz_lst, fz_dct, fz_ins, fzs_nil, fzs_cons, fCall_e, kCall_o, kCall'_o, kCall'_x, kPut_o, putB_nil, putB_cons, kB1_s, kB1_n, kB2_n, outs_nil, outs_cons, kOuts_o, kCons_o, kOut_o, fn_e, kFn_nx, kFn_rt, kFn_x, fFor_e, kFor_o, kFor_x, loop_nil, loop_cons, kLoop_o, kLoop_nx, kLoop_ct, kLoop_bk, kLoop_rt, fIt_e, kIt_l, kIt_t, fR1_e, kR1_o, fR2_e, kR2_o, fR3_e, kR3_o, fGn_e, fGt_e, fGs1_e, kGs_o, fGs0_e, fAsg_e, kAsg_o, kAsg'_o, isL_e, kL_l, fApp_e, kApp_o, kApp'_o, fExt_e, kExt_o, kExt'_o, fPop_e, kPop_l, kPop'_o, fRev_e, kRev_l, fP0_e, fP1_e, kP1_i, fSl_e, kSl_o, kSl1_o, kSl2_o, fSetL_e, kSL_o, kSL1_o, fLc_e, kLc_o, kLc'_o, wipe_nil, wipe_cons, lcl_nil, lcl_cons, kLc1_o, kLc2_t, kLc2_f, kLc3_o, fYes_e, fD0_e, fDput_e, kDp_o, kDp1_o, kO_int, kDp2_o, isD_e, kD_d, fForD_e, noXF_e, kFD_d, noX_o, fSf_e, kSf_1, isI_e, kI_0, fMeth_e, kMe_o, kMe1_o, kMe2_o, fRaise_e, kRet_x, kSet_x, kIfS_x, kLoop_x, kCall_x, kB_x, kNot_x, kO2_x, fTry_e, kTry_x, kTry1_t, kTry1_f, kTry_o, deadE_nil, deadE_v, deadE_n, deadE_l, deadE_d, deadE_i, fzKs_nil, fT0_e, fz_dtt, kV_dtt, fPkT_e, kPkT_o, fDictO_e, kDictO_d, isTT_e, kTT_d, fTput_e, kTp_o, kTp1_o, kTp2_o, sV_bl, sV_int, kT_2, kT_3, fSfSet_e, kSfS_o, kSfS'_o, kWh_t, kWh_f, kWh'_nx, fD1_e, kD1_o, kD1'_o, eq_self, Int.reduceLT, Int.reduceLE, Int.reduceEq, Int.reduceNeg, Bool.false_eq_true, if_false, Option.map_some, Option.map_none, List.map_cons, List.map_nil, List.length_cons, List.length_nil, List.cons_append, List.nil_append, Nat.reduceAdd, Nat.reduceSub, List.replicate_succ, List.replicate_zero, List.append_nil, List.getElem?_cons_zero, List.getElem?_cons_succ, List.set_cons_zero, List.set_cons_succ, if_true, reduceIte, decide_true, decide_false, Bool.not_true, Bool.not_false, tk (show (0 : Int) < 12 by decide), gEq_int, e0, c0, e]
    · by_cases c5 : takeV D 12 < 5
      · obtain ⟨s1, D1, f1, g1, k1, n1⟩ := ih (m + 2) (takeR D) w r loose (by omega) (by omega) h7
        obtain ⟨s2, D2, f2, g2, k2, n2⟩ := ih (m + 2) D1 w r loose (by omega) (by omega) h7
        unfold liP at f1 f2
        by_cases c2 : 2 < takeV D 12
        · refine ⟨.bin true s1 s2, D2, ?_, by show max s1.ht s2.ht + 1 ≤ d + 1; omega, ⟨k1, k2⟩, ⟨n1, n2⟩⟩
          rw [p__law_statement]
          unfold liP
          simp only [b__law_statement, fSeq_e, kSeq_nx, kSeq_rt, kSeq_bk, kSeq_ct, kSeq_exc, fIfS_e, kIfS_t, kIfS_f, fNx_e, fBk_e, fCt_e, fRetN_e, fRet_e, kRet_o, fExpr_e, kExpr_o, kExpr_x, fSet_e, kSet_o, fC_e, fV_e, kV_val, kV_lst, kV_dct, kV_ins, fM_e, kM_o, fZ_e, kZ_o, kG_o, ov_e, fO2_e, kO2_o, kO2'_o, fO1_e, kO1_o, fIsi_e, fB_e, kB_o, fNot_e, kNot_o, fAnd_e, kAnd_t, kAnd_f, fOr_e, kOr_t, kOr_f, fAndV_e, kAndV_t, kAndV_f, fOrV_e, kOrV_t, kOrV_f, fNotV_e, kNotV_o, fIf_e, kIf_t, kIf_f, fA0_e, fA1_e, kA1_o, kA1'_o, vls_nil, vls_cons, kVls_o, fTup_e, kTup_o, kTup'_o, fLst_e, kLst_o, fCB_e, kCB_o, kCB'_o, frE_nil, frE_c, fPk_e, kPk_int, kPk_bl, kPk_str, kPk_non, fz_val, fz_lst, fz_dct, fz_ins, fzs_nil, fzs_cons, fCall_e, kCall_o, kCall'_o, kCall'_x, kPut_o, putB_nil, putB_cons, kB1_s, kB1_n, kB2_n, outs_nil, outs_cons, kOuts_o, kCons_o, kOut_o, fn_e, kFn_nx, kFn_rt, kFn_x, fFor_e, kFor_o, kFor_x, loop_nil, loop_cons, kLoop_o, kLoop_nx, kLoop_ct, kLoop_bk, kLoop_rt, fIt_e, kIt_l, kIt_t, fR1_e, kR1_o, fR2_e, kR2_o, fR3_e, kR3_o, fGn_e, fGt_e, fGs1_e, kGs_o, fGs0_e, fAsg_e, kAsg_o, kAsg'_o, isL_e, kL_l, fApp_e, kApp_o, kApp'_o, fExt_e, kExt_o, kExt'_o, fPop_e, kPop_l, kPop'_o, fRev_e, kRev_l, fP0_e, fP1_e, kP1_i, fSl_e, kSl_o, kSl1_o, kSl2_o, fSetL_e, kSL_o, kSL1_o, fLc_e, kLc_o, kLc'_o, wipe_nil, wipe_cons, lcl_nil, lcl_cons, kLc1_o, kLc2_t, kLc2_f, kLc3_o, fYes_e, fD0_e, fDput_e, kDp_o, kDp1_o, kO_int, kDp2_o, isD_e, kD_d, fForD_e, noXF_e, kFD_d, noX_o, fSf_e, kSf_1, isI_e, kI_0, fMeth_e, kMe_o, kMe1_o, kMe2_o, fRaise_e, kRet_x, kSet_x, kIfS_x, kLoop_x, kCall_x, kB_x, kNot_x, kO2_x, fTry_e, kTry_x, kTry1_t, kTry1_f, kTry_o, deadE_nil, deadE_v, deadE_n, deadE_l, deadE_d, deadE_i, fzKs_nil, fT0_e, fz_dtt, kV_dtt, fPkT_e, kPkT_o, fDictO_e, kDictO_d, isTT_e, kTT_d, fTput_e, kTp_o, kTp1_o, kTp2_o, sV_bl, sV_int, kT_2, kT_3, fSfSet_e, kSfS_o, kSfS'_o, kWh_t, kWh_f, kWh'_nx, fD1_e, kD1_o, kD1'_o, eq_self, Int.reduceLT, Int.reduceLE, Int.reduceEq, Int.reduceNeg, Bool.false_eq_true, if_false, Option.map_some, Option.map_none, List.map_cons, List.map_nil, List.length_cons, List.length_nil, List.cons_append, List.nil_append, Nat.reduceAdd, Nat.reduceSub, List.replicate_succ, List.replicate_zero, List.append_nil, List.getElem?_cons_zero, List.getElem?_cons_succ, List.set_cons_zero, List.set_cons_succ, if_true, reduceIte, decide_true, decide_false, Bool.not_true, Bool.not_false, tk (show (0 : Int) < 12 by decide), gEq_int, gLt_i, gGt_i, gSub_i, e0, e1, c0, c5, c2, f1, f2, gInt_t, ao_1] <;> rfl
        · refine ⟨.bin false s1 s2, D2, ?_, by show max s1.ht s2.ht + 1 ≤ d + 1; omega, ⟨k1, k2⟩, ⟨n1, n2⟩⟩
          rw [p__law_statement]
          unfold liP
          simp only [b__law_statement, fSeq_e, kSeq_nx, kSeq_rt, kSeq_bk, kSeq_ct, kSeq_exc, fIfS_e, kIfS_t, kIfS_f, fNx_e, fBk_e, fCt_e, fRetN_e, fRet_e, kRet_o, fExpr_e, kExpr_o, kExpr_x, fSet_e, kSet_o, fC_e, fV_e, kV_val, kV_lst, kV_dct, kV_ins, fM_e, kM_o, fZ_e, kZ_o, kG_o, ov_e, fO2_e, kO2_o, kO2'_o, fO1_e, kO1_o, fIsi_e, fB_e, kB_o, fNot_e, kNot_o, fAnd_e, kAnd_t, kAnd_f, fOr_e, kOr_t, kOr_f, fAndV_e, kAndV_t, kAndV_f, fOrV_e, kOrV_t, kOrV_f, fNotV_e, kNotV_o, fIf_e, kIf_t, kIf_f, fA0_e, fA1_e, kA1_o, kA1'_o, vls_nil, vls_cons, kVls_o, fTup_e, kTup_o, kTup'_o, fLst_e, kLst_o, fCB_e, kCB_o, kCB'_o, frE_nil, frE_c, fPk_e, kPk_int, kPk_bl, kPk_str, kPk_non, fz_val, fz_lst, fz_dct, fz_ins, fzs_nil, fzs_cons, fCall_e, kCall_o, kCall'_o, kCall'_x, kPut_o, putB_nil, putB_cons, kB1_s, kB1_n, kB2_n, outs_nil, outs_cons, kOuts_o, kCons_o, kOut_o, fn_e, kFn_nx, kFn_rt, kFn_x, fFor_e, kFor_o, kFor_x, loop_nil, loop_cons, kLoop_o, kLoop_nx, kLoop_ct, kLoop_bk, kLoop_rt, fIt_e, kIt_l, kIt_t, fR1_e, kR1_o, fR2_e, kR2_o, fR3_e, kR3_o, fGn_e, fGt_e, fGs1_e, kGs_o, fGs0_e, fAsg_e, kAsg_o, kAsg'_o, isL_e, kL_l, fApp_e, kApp_o, kApp'_o, fExt_e, kExt_o, kExt'_o, fPop_e, kPop_l, kPop'_o, fRev_e, kRev_l, fP0_e, fP1_e, kP1_i, fSl_e, kSl_o, kSl1_o, kSl2_o, fSetL_e, kSL_o, kSL1_o, fLc_e, kLc_o, kLc'_o, wipe_nil, wipe_cons, lcl_nil, lcl_cons, kLc1_o, kLc2_t, kLc2_f, kLc3_o, fYes_e, fD0_e, fDput_e, kDp_o, kDp1_o, kO_int, kDp2_o, isD_e, kD_d, fForD_e, noXF_e, kFD_d, noX_o, fSf_e, kSf_1, isI_e, kI_0, fMeth_e, kMe_o, kMe1_o, kMe2_o, fRaise_e, kRet_x, kSet_x, kIfS_x, kLoop_x, kCall_x, kB_x, kNot_x, kO2_x, fTry_e, kTry_x, kTry1_t, kTry1_f, kTry_o, deadE_nil, deadE_v, deadE_n, deadE_l, deadE_d, deadE_i, fzKs_nil, fT0_e, fz_dtt, kV_dtt, fPkT_e, kPkT_o, fDictO_e, kDictO_d, isTT_e, kTT_d, fTput_e, kTp_o, kTp1_o, kTp2_o, sV_bl, sV_int, kT_2, kT_3, fSfSet_e, kSfS_o, kSfS'_o, kWh_t, kWh_f, kWh'_nx, fD1_e, kD1_o, kD1'_o, eq_self, Int.reduceLT, Int.reduceLE, Int.reduceEq, Int.reduceNeg, Bool.false_eq_true, if_false, Option.map_some, Option.map_none, List.map_cons, List.map_nil, List.length_cons, List.length_nil, List.cons_append, List.nil_append, Nat.reduceAdd, Nat.reduceSub, List.replicate_succ, List.replicate_zero, List.append_nil, List.getElem?_cons_zero, List.getElem?_cons_succ, List.set_cons_zero, List.set_cons_succ, if_true, reduceIte, decide_true, decide_false, Bool.not_true, Bool.not_false, tk (show (0 : Int) < 12 by decide), gEq_int, gLt_i, gGt_i, gSub_i, e0, e1, c0, c5, c2, f1, f2, gInt_f, ao_0] <;> rfl
      · by_cases c8 : takeV D 12 < 8
        · obtain ⟨o, eo⟩ := sa_b (takeR (takeR D))
          obtain ⟨s1, D1, f1, g1, k1, n1⟩ := ih (m + 2) (takeR (takeR (takeR D))) [] (r ++ w) loose (by omega) (by rw [List.length_append, List.length_nil]; omega) (by rw [List.append_nil]; exact h7)
          have f1' : prog (m + 2) i__law_statement [encD (takeR (takeR (takeR D))), .val (.int (d : Int)), .val (.lst []), .val (.lst ((r ++ w).map PV.int)), .val (.bl loose)] = .ok (.val (Fm.enc s1), [encD D1]) := f1
          refine ⟨.mod o (takeV (takeR D) 3 / 2) s1, D1, ?_, by show s1.ht + 1 ≤ d + 1; omega, by rw [List.append_nil] at k1; exact k1, rg3 _, n1⟩
          rw [p__law_statement]
          unfold liP
          simp only [b__law_statement, fSeq_e, kSeq_nx, kSeq_rt, kSeq_bk, kSeq_ct, kSeq_exc, fIfS_e, kIfS_t, kIfS_f, fNx_e, fBk_e, fCt_e, fRetN_e, fRet_e, kRet_o, fExpr_e, kExpr_o, kExpr_x, fSet_e, kSet_o, fC_e, fV_e, kV_val, kV_lst, kV_dct, kV_ins, fM_e, kM_o, fZ_e, kZ_o, kG_o, ov_e, fO2_e, kO2_o, kO2'_o, fO1_e, kO1_o, fIsi_e, fB_e, kB_o, fNot_e, kNot_o, fAnd_e, kAnd_t, kAnd_f, fOr_e, kOr_t, kOr_f, fAndV_e, kAndV_t, kAndV_f, fOrV_e, kOrV_t, kOrV_f, fNotV_e, kNotV_o, fIf_e, kIf_t, kIf_f, fA0_e, fA1_e, kA1_o, kA1'_o, vls_nil, vls_cons, kVls_o, fTup_e, kTup_o, kTup'_o, fLst_e, kLst_o, fCB_e, kCB_o, kCB'_o, frE_nil, frE_c, fPk_e, kPk_int, kPk_bl, kPk_str, kPk_non, fz_val, fz_lst, fz_dct, fz_ins, fzs_nil, fzs_cons, fCall_e, kCall_o, kCall'_o, kCall'_x, kPut_o, putB_nil, putB_cons, kB1_s, kB1_n, kB2_n, outs_nil, outs_cons, kOuts_o, kCons_o, kOut_o, fn_e, kFn_nx, kFn_rt, kFn_x, fFor_e, kFor_o, kFor_x, loop_nil, loop_cons, kLoop_o, kLoop_nx, kLoop_ct, kLoop_bk, kLoop_rt, fIt_e, kIt_l, kIt_t, fR1_e, kR1_o, fR2_e, kR2_o, fR3_e, kR3_o, fGn_e, fGt_e, fGs1_e, kGs_o, fGs0_e, fAsg_e, kAsg_o, kAsg'_o, isL_e, kL_l, fApp_e, kApp_o, kApp'_o, fExt_e, kExt_o, kExt'_o, fPop_e, kPop_l, kPop'_o, fRev_e, kRev_l, fP0_e, fP1_e, kP1_i, fSl_e, kSl_o, kSl1_o, kSl2_o, fSetL_e, kSL_o, kSL1_o, fLc_e, kLc_o, kLc'_o, wipe_nil, wipe_cons, lcl_nil, lcl_cons, kLc1_o, kLc2_t, kLc2_f, kLc3_o, fYes_e, fD0_e, fDput_e, kDp_o, kDp1_o, kO_int, kDp2_o, isD_e, kD_d, fForD_e, noXF_e, kFD_d, noX_o, fSf_e, kSf_1, isI_e, kI_0, fMeth_e, kMe_o, kMe1_o, kMe2_o, fRaise_e, kRet_x, kSet_x, kIfS_x, kLoop_x, kCall_x, kB_x, kNot_x, kO2_x, fTry_e, kTry_x, kTry1_t, kTry1_f, kTry_o, deadE_nil, deadE_v, deadE_n, deadE_l, deadE_d, deadE_i, fzKs_nil, fT0_e, fz_dtt, kV_dtt, fPkT_e, kPkT_o, fDictO_e, kDictO_d, isTT_e, kTT_d, fTput_e, kTp_o, kTp1_o, kTp2_o, sV_bl, sV_int, kT_2, kT_3, fSfSet_e, kSfS_o, kSfS'_o, kWh_t, kWh_f, kWh'_nx, fD1_e, kD1_o, kD1'_o, eq_self, Int.reduceLT, Int.reduceLE, Int.reduceEq, Int.reduceNeg, Bool.false_eq_true, if_false, Option.map_some, Option.map_none, List.map_cons, List.map_nil, List.length_cons, List.length_nil, List.cons_append, List.nil_append, Nat.reduceAdd, Nat.reduceSub, List.replicate_succ, List.replicate_zero, List.append_nil, List.getElem?_cons_zero, List.getElem?_cons_succ, List.set_cons_zero, List.set_cons_succ, if_true, reduceIte, decide_true, decide_false, Bool.not_true, Bool.not_false, tk (show (0 : Int) < 12 by decide), tk (show (0 : Int) < 3 by decide), tk (show (0 : Int) < 2 by decide), gEq_int, gLt_i, gSub_i, gDiv_i (show (0 : Int) < 2 by decide) (show (2 : Int) < 1073741824 by decide), e0, e1, c0, c5, c8, eo, gAdd_li r w (by omega), fzs_vals, f1'] <;> rfl
        · obtain ⟨v, v7, ev⟩ := nm_b (takeR D)
          have lw : w.length ≤ 10000000 := by omega
          have lr : r.length ≤ 10000000 := by omega
          have fw := len_filter w fun x => !decide (x = v)
          have fr := len_filter r fun x => !decide (x = v)
          have sub : ∀ (x : Int) (l : List Int), x ∈ l.filter (fun x => !decide (x = v)) → x ∈ l := fun x l h => (List.mem_filter.mp h).1
          have h7L : ∀ x ∈ (r.filter fun x => !decide (x = v)) ++ (w.filter (fun x => !decide (x = v)) ++ [v]), 0 ≤ x ∧ x ≤ 7 := fun x hx => by
            rcases List.mem_append.mp hx with z | z
            · exact h7 x (List.mem_append_left _ (sub x r z))
            · rcases List.mem_append.mp z with z | z
              · exact h7 x (List.mem_append_right _ (sub x w z))
              · rw [List.mem_singleton.mp z]; exact v7
          have h7S : ∀ x ∈ (r.filter (fun x => !decide (x = v)) ++ [v]) ++ (w.filter fun x => !decide (x = v)), 0 ≤ x ∧ x ≤ 7 := fun x hx => by
            rcases List.mem_append.mp hx with z | z
            · rcases List.mem_append.mp z with z | z
              · exact h7 x (List.mem_append_left _ (sub x r z))
              · rw [List.mem_singleton.mp z]; exact v7
            · exact h7 x (List.mem_append_right _ (sub x w z))
          have late : ∀ (Dk : List Int), ∃ s D', prog (m + 2) i__law_statement [encD (takeR Dk), .val (.int (d : Int)), .val (.lst ((w.filter (fun x => !decide (x = v)) ++ [v]).map PV.int)), .val (.lst ((r.filter fun x => !decide (x = v)).map PV.int)), .val (.bl loose)] = .ok (.val (Fm.enc s), [encD D']) ∧ s.ht ≤ d ∧ Fm.fin ((r ++ w) ++ [v]) s ∧ Fm.nn s := fun Dk => by
            obtain ⟨s, D', f, g, k, n1⟩ := ih (m + 2) (takeR Dk) (w.filter (fun x => !decide (x = v)) ++ [v]) (r.filter fun x => !decide (x = v)) loose (by omega) (by rw [List.length_append, List.length_singleton]; omega) h7L
            refine ⟨s, D', f, g, Fm.fin_mono (fun x hx => ?_) k, n1⟩
            rcases List.mem_append.mp hx with z | z
            · exact List.mem_append_left _ (List.mem_append_left _ (sub x r z))
            · rcases List.mem_append.mp z with z | z
              · exact List.mem_append_left _ (List.mem_append_right _ (sub x w z))
              · exact List.mem_append_right _ z
          have soon : ∀ (Dk : List Int), ∃ s D', prog (m + 2) i__law_statement [encD (takeR Dk), .val (.int (d : Int)), .val (.lst ((w.filter fun x => !decide (x = v)).map PV.int)), .val (.lst ((r.filter (fun x => !decide (x = v)) ++ [v]).map PV.int)), .val (.bl loose)] = .ok (.val (Fm.enc s), [encD D']) ∧ s.ht ≤ d ∧ Fm.fin ((r ++ w) ++ [v]) s ∧ Fm.nn s := fun Dk => by
            obtain ⟨s, D', f, g, k, n1⟩ := ih (m + 2) (takeR Dk) (w.filter fun x => !decide (x = v)) (r.filter (fun x => !decide (x = v)) ++ [v]) loose (by omega) (by rw [List.length_append, List.length_singleton]; omega) h7S
            refine ⟨s, D', f, g, Fm.fin_mono (fun x hx => ?_) k, n1⟩
            rcases List.mem_append.mp hx with z | z
            · rcases List.mem_append.mp z with z | z
              · exact List.mem_append_left _ (List.mem_append_left _ (sub x r z))
              · exact List.mem_append_right _ z
            · exact List.mem_append_left _ (List.mem_append_right _ (sub x w z))
          have g1 := gAdd_l1 (w.filter fun x => !decide (x = v)) v (by omega)
          have g2 := gAdd_l1 (r.filter fun x => !decide (x = v)) v (by omega)
          cases loose with
          | false =>
            obtain ⟨o, eo⟩ := lm_b (takeR (takeR D))
            obtain ⟨s, D', f, g, k, n1⟩ := late (takeR (takeR D))
            refine ⟨.fix o v s, D', ?_, by show s.ht + 1 ≤ d + 1; omega, k, v7, n1⟩
            rw [p__law_statement]
            unfold liP
            simp only [b__law_statement, fSeq_e, kSeq_nx, kSeq_rt, kSeq_bk, kSeq_ct, kSeq_exc, fIfS_e, kIfS_t, kIfS_f, fNx_e, fBk_e, fCt_e, fRetN_e, fRet_e, kRet_o, fExpr_e, kExpr_o, kExpr_x, fSet_e, kSet_o, fC_e, fV_e, kV_val, kV_lst, kV_dct, kV_ins, fM_e, kM_o, fZ_e, kZ_o, kG_o, ov_e, fO2_e, kO2_o, kO2'_o, fO1_e, kO1_o, fIsi_e, fB_e, kB_o, fNot_e, kNot_o, fAnd_e, kAnd_t, kAnd_f, fOr_e, kOr_t, kOr_f, fAndV_e, kAndV_t, kAndV_f, fOrV_e, kOrV_t, kOrV_f, fNotV_e, kNotV_o, fIf_e, kIf_t, kIf_f, fA0_e, fA1_e, kA1_o, kA1'_o, vls_nil, vls_cons, kVls_o, fTup_e, kTup_o, kTup'_o, fLst_e, kLst_o, fCB_e, kCB_o, kCB'_o, frE_nil, frE_c, fPk_e, kPk_int, kPk_bl, kPk_str, kPk_non, fz_val, fz_lst, fz_dct, fz_ins, fzs_nil, fzs_cons, fCall_e, kCall_o, kCall'_o, kCall'_x, kPut_o, putB_nil, putB_cons, kB1_s, kB1_n, kB2_n, outs_nil, outs_cons, kOuts_o, kCons_o, kOut_o, fn_e, kFn_nx, kFn_rt, kFn_x, fFor_e, kFor_o, kFor_x, loop_nil, loop_cons, kLoop_o, kLoop_nx, kLoop_ct, kLoop_bk, kLoop_rt, fIt_e, kIt_l, kIt_t, fR1_e, kR1_o, fR2_e, kR2_o, fR3_e, kR3_o, fGn_e, fGt_e, fGs1_e, kGs_o, fGs0_e, fAsg_e, kAsg_o, kAsg'_o, isL_e, kL_l, fApp_e, kApp_o, kApp'_o, fExt_e, kExt_o, kExt'_o, fPop_e, kPop_l, kPop'_o, fRev_e, kRev_l, fP0_e, fP1_e, kP1_i, fSl_e, kSl_o, kSl1_o, kSl2_o, fSetL_e, kSL_o, kSL1_o, fLc_e, kLc_o, kLc'_o, wipe_nil, wipe_cons, lcl_nil, lcl_cons, kLc1_o, kLc2_t, kLc2_f, kLc3_o, fYes_e, fD0_e, fDput_e, kDp_o, kDp1_o, kO_int, kDp2_o, isD_e, kD_d, fForD_e, noXF_e, kFD_d, noX_o, fSf_e, kSf_1, isI_e, kI_0, fMeth_e, kMe_o, kMe1_o, kMe2_o, fRaise_e, kRet_x, kSet_x, kIfS_x, kLoop_x, kCall_x, kB_x, kNot_x, kO2_x, fTry_e, kTry_x, kTry1_t, kTry1_f, kTry_o, deadE_nil, deadE_v, deadE_n, deadE_l, deadE_d, deadE_i, fzKs_nil, fT0_e, fz_dtt, kV_dtt, fPkT_e, kPkT_o, fDictO_e, kDictO_d, isTT_e, kTT_d, fTput_e, kTp_o, kTp1_o, kTp2_o, sV_bl, sV_int, kT_2, kT_3, fSfSet_e, kSfS_o, kSfS'_o, kWh_t, kWh_f, kWh'_nx, fD1_e, kD1_o, kD1'_o, eq_self, Int.reduceLT, Int.reduceLE, Int.reduceEq, Int.reduceNeg, Bool.false_eq_true, if_false, Option.map_some, Option.map_none, List.map_cons, List.map_nil, List.length_cons, List.length_nil, List.cons_append, List.nil_append, Nat.reduceAdd, Nat.reduceSub, List.replicate_succ, List.replicate_zero, List.append_nil, List.getElem?_cons_zero, List.getElem?_cons_succ, List.set_cons_zero, List.set_cons_succ, if_true, reduceIte, decide_true, decide_false, Bool.not_true, Bool.not_false, tk (show (0 : Int) < 12 by decide), tk (show (0 : Int) < 4 by decide), tk (show (0 : Int) < 3 by decide), tk (show (0 : Int) < 2 by decide), gEq_int, gLt_i, gSub_i, e0, e1, c0, c5, c8, ev, List.length_map, lw, lr, lc_ne, fzs_vals, g1, eo, f] <;> rfl
          | true =>
            by_cases c3 : takeV (takeR (takeR D)) 3 = 0
            · obtain ⟨o, eo⟩ := lm_b (takeR (takeR (takeR D)))
              obtain ⟨s, D', f, g, k, n1⟩ := soon (takeR (takeR (takeR D)))
              refine ⟨.fix o v s, D', ?_, by show s.ht + 1 ≤ d + 1; omega, k, v7, n1⟩
              rw [p__law_statement]
              unfold liP
              simp only [b__law_statement, fSeq_e, kSeq_nx, kSeq_rt, kSeq_bk, kSeq_ct, kSeq_exc, fIfS_e, kIfS_t, kIfS_f, fNx_e, fBk_e, fCt_e, fRetN_e, fRet_e, kRet_o, fExpr_e, kExpr_o, kExpr_x, fSet_e, kSet_o, fC_e, fV_e, kV_val, kV_lst, kV_dct, kV_ins, fM_e, kM_o, fZ_e, kZ_o, kG_o, ov_e, fO2_e, kO2_o, kO2'_o, fO1_e, kO1_o, fIsi_e, fB_e, kB_o, fNot_e, kNot_o, fAnd_e, kAnd_t, kAnd_f, fOr_e, kOr_t, kOr_f, fAndV_e, kAndV_t, kAndV_f, fOrV_e, kOrV_t, kOrV_f, fNotV_e, kNotV_o, fIf_e, kIf_t, kIf_f, fA0_e, fA1_e, kA1_o, kA1'_o, vls_nil, vls_cons, kVls_o, fTup_e, kTup_o, kTup'_o, fLst_e, kLst_o, fCB_e, kCB_o, kCB'_o, frE_nil, frE_c, fPk_e, kPk_int, kPk_bl, kPk_str, kPk_non, fz_val, fz_lst, fz_dct, fz_ins, fzs_nil, fzs_cons, fCall_e, kCall_o, kCall'_o, kCall'_x, kPut_o, putB_nil, putB_cons, kB1_s, kB1_n, kB2_n, outs_nil, outs_cons, kOuts_o, kCons_o, kOut_o, fn_e, kFn_nx, kFn_rt, kFn_x, fFor_e, kFor_o, kFor_x, loop_nil, loop_cons, kLoop_o, kLoop_nx, kLoop_ct, kLoop_bk, kLoop_rt, fIt_e, kIt_l, kIt_t, fR1_e, kR1_o, fR2_e, kR2_o, fR3_e, kR3_o, fGn_e, fGt_e, fGs1_e, kGs_o, fGs0_e, fAsg_e, kAsg_o, kAsg'_o, isL_e, kL_l, fApp_e, kApp_o, kApp'_o, fExt_e, kExt_o, kExt'_o, fPop_e, kPop_l, kPop'_o, fRev_e, kRev_l, fP0_e, fP1_e, kP1_i, fSl_e, kSl_o, kSl1_o, kSl2_o, fSetL_e, kSL_o, kSL1_o, fLc_e, kLc_o, kLc'_o, wipe_nil, wipe_cons, lcl_nil, lcl_cons, kLc1_o, kLc2_t, kLc2_f, kLc3_o, fYes_e, fD0_e, fDput_e, kDp_o, kDp1_o, kO_int, kDp2_o, isD_e, kD_d, fForD_e, noXF_e, kFD_d, noX_o, fSf_e, kSf_1, isI_e, kI_0, fMeth_e, kMe_o, kMe1_o, kMe2_o, fRaise_e, kRet_x, kSet_x, kIfS_x, kLoop_x, kCall_x, kB_x, kNot_x, kO2_x, fTry_e, kTry_x, kTry1_t, kTry1_f, kTry_o, deadE_nil, deadE_v, deadE_n, deadE_l, deadE_d, deadE_i, fzKs_nil, fT0_e, fz_dtt, kV_dtt, fPkT_e, kPkT_o, fDictO_e, kDictO_d, isTT_e, kTT_d, fTput_e, kTp_o, kTp1_o, kTp2_o, sV_bl, sV_int, kT_2, kT_3, fSfSet_e, kSfS_o, kSfS'_o, kWh_t, kWh_f, kWh'_nx, fD1_e, kD1_o, kD1'_o, eq_self, Int.reduceLT, Int.reduceLE, Int.reduceEq, Int.reduceNeg, Bool.false_eq_true, if_false, Option.map_some, Option.map_none, List.map_cons, List.map_nil, List.length_cons, List.length_nil, List.cons_append, List.nil_append, Nat.reduceAdd, Nat.reduceSub, List.replicate_succ, List.replicate_zero, List.append_nil, List.getElem?_cons_zero, List.getElem?_cons_succ, List.set_cons_zero, List.set_cons_succ, if_true, reduceIte, decide_true, decide_false, Bool.not_true, Bool.not_false, tk (show (0 : Int) < 12 by decide), tk (show (0 : Int) < 4 by decide), tk (show (0 : Int) < 3 by decide), tk (show (0 : Int) < 2 by decide), gEq_int, gLt_i, gSub_i, e0, e1, c0, c5, c8, ev, List.length_map, lw, lr, lc_ne, c3, fzs_vals, g2, eo, f] <;> rfl
            · obtain ⟨o, eo⟩ := lm_b (takeR (takeR (takeR D)))
              obtain ⟨s, D', f, g, k, n1⟩ := late (takeR (takeR (takeR D)))
              refine ⟨.fix o v s, D', ?_, by show s.ht + 1 ≤ d + 1; omega, k, v7, n1⟩
              rw [p__law_statement]
              unfold liP
              simp only [b__law_statement, fSeq_e, kSeq_nx, kSeq_rt, kSeq_bk, kSeq_ct, kSeq_exc, fIfS_e, kIfS_t, kIfS_f, fNx_e, fBk_e, fCt_e, fRetN_e, fRet_e, kRet_o, fExpr_e, kExpr_o, kExpr_x, fSet_e, kSet_o, fC_e, fV_e, kV_val, kV_lst, kV_dct, kV_ins, fM_e, kM_o, fZ_e, kZ_o, kG_o, ov_e, fO2_e, kO2_o, kO2'_o, fO1_e, kO1_o, fIsi_e, fB_e, kB_o, fNot_e, kNot_o, fAnd_e, kAnd_t, kAnd_f, fOr_e, kOr_t, kOr_f, fAndV_e, kAndV_t, kAndV_f, fOrV_e, kOrV_t, kOrV_f, fNotV_e, kNotV_o, fIf_e, kIf_t, kIf_f, fA0_e, fA1_e, kA1_o, kA1'_o, vls_nil, vls_cons, kVls_o, fTup_e, kTup_o, kTup'_o, fLst_e, kLst_o, fCB_e, kCB_o, kCB'_o, frE_nil, frE_c, fPk_e, kPk_int, kPk_bl, kPk_str, kPk_non, fz_val, fz_lst, fz_dct, fz_ins, fzs_nil, fzs_cons, fCall_e, kCall_o, kCall'_o, kCall'_x, kPut_o, putB_nil, putB_cons, kB1_s, kB1_n, kB2_n, outs_nil, outs_cons, kOuts_o, kCons_o, kOut_o, fn_e, kFn_nx, kFn_rt, kFn_x, fFor_e, kFor_o, kFor_x, loop_nil, loop_cons, kLoop_o, kLoop_nx, kLoop_ct, kLoop_bk, kLoop_rt, fIt_e, kIt_l, kIt_t, fR1_e, kR1_o, fR2_e, kR2_o, fR3_e, kR3_o, fGn_e, fGt_e, fGs1_e, kGs_o, fGs0_e, fAsg_e, kAsg_o, kAsg'_o, isL_e, kL_l, fApp_e, kApp_o, kApp'_o, fExt_e, kExt_o, kExt'_o, fPop_e, kPop_l, kPop'_o, fRev_e, kRev_l, fP0_e, fP1_e, kP1_i, fSl_e, kSl_o, kSl1_o, kSl2_o, fSetL_e, kSL_o, kSL1_o, fLc_e, kLc_o, kLc'_o, wipe_nil, wipe_cons, lcl_nil, lcl_cons, kLc1_o, kLc2_t, kLc2_f, kLc3_o, fYes_e, fD0_e, fDput_e, kDp_o, kDp1_o, kO_int, kDp2_o, isD_e, kD_d, fForD_e, noXF_e, kFD_d, noX_o, fSf_e, kSf_1, isI_e, kI_0, fMeth_e, kMe_o, kMe1_o, kMe2_o, fRaise_e, kRet_x, kSet_x, kIfS_x, kLoop_x, kCall_x, kB_x, kNot_x, kO2_x, fTry_e, kTry_x, kTry1_t, kTry1_f, kTry_o, deadE_nil, deadE_v, deadE_n, deadE_l, deadE_d, deadE_i, fzKs_nil, fT0_e, fz_dtt, kV_dtt, fPkT_e, kPkT_o, fDictO_e, kDictO_d, isTT_e, kTT_d, fTput_e, kTp_o, kTp1_o, kTp2_o, sV_bl, sV_int, kT_2, kT_3, fSfSet_e, kSfS_o, kSfS'_o, kWh_t, kWh_f, kWh'_nx, fD1_e, kD1_o, kD1'_o, eq_self, Int.reduceLT, Int.reduceLE, Int.reduceEq, Int.reduceNeg, Bool.false_eq_true, if_false, Option.map_some, Option.map_none, List.map_cons, List.map_nil, List.length_cons, List.length_nil, List.cons_append, List.nil_append, Nat.reduceAdd, Nat.reduceSub, List.replicate_succ, List.replicate_zero, List.append_nil, List.getElem?_cons_zero, List.getElem?_cons_succ, List.set_cons_zero, List.set_cons_succ, if_true, reduceIte, decide_true, decide_false, Bool.not_true, Bool.not_false, tk (show (0 : Int) < 12 by decide), tk (show (0 : Int) < 4 by decide), tk (show (0 : Int) < 3 by decide), tk (show (0 : Int) < 2 by decide), gEq_int, gLt_i, gSub_i, e0, e1, c0, c5, c8, ev, List.length_map, lw, lr, lc_ne, c3, fzs_vals, g1, eo, f] <;> rfl
theorem closed_eq (d n : Nat) (D : List Int) (hd : d + 4 ≤ n) (h9 : d ≤ 900) : ∃ s D', prog n i__law_closed [encD D, .val (.int (d : Int))] = .ok (.val (Fm.enc s), [encD D']) ∧ s.ht ≤ d ∧ Fm.fin [] s ∧ Fm.nn s := by
  obtain ⟨m, rfl⟩ : ∃ m, n = m + 1 := ⟨n - 1, by omega⟩
  obtain ⟨s, D', e, h1, h2, h3⟩ := statement_eq d m D [] [] true (by omega) (by simp; omega) (by simp)
  have e' : prog m i__law_statement [encD D, .val (.int (d : Int)), .val (.lst []), .val (.lst []), .val (.bl true)] = .ok (.val (Fm.enc s), [encD D']) := e
  refine ⟨s, D', ?_, h1, h2, h3⟩
  rw [p__law_closed]
  simp only [b__law_closed, fSeq_e, kSeq_nx, kSeq_rt, kSeq_bk, kSeq_ct, kSeq_exc, fIfS_e, kIfS_t, kIfS_f, fNx_e, fBk_e, fCt_e, fRetN_e, fRet_e, kRet_o, fExpr_e, kExpr_o, kExpr_x, fSet_e, kSet_o, fC_e, fV_e, kV_val, kV_lst, kV_dct, kV_ins, fM_e, kM_o, fZ_e, kZ_o, kG_o, ov_e, fO2_e, kO2_o, kO2'_o, fO1_e, kO1_o, fIsi_e, fB_e, kB_o, fNot_e, kNot_o, fAnd_e, kAnd_t, kAnd_f, fOr_e, kOr_t, kOr_f, fAndV_e, kAndV_t, kAndV_f, fOrV_e, kOrV_t, kOrV_f, fNotV_e, kNotV_o, fIf_e, kIf_t, kIf_f, fA0_e, fA1_e, kA1_o, kA1'_o, vls_nil, vls_cons, kVls_o, fTup_e, kTup_o, kTup'_o, fLst_e, kLst_o, fCB_e, kCB_o, kCB'_o, frE_nil, frE_c, fPk_e, kPk_int, kPk_bl, kPk_str, kPk_non, fz_val, fz_lst, fz_dct, fz_ins, fzs_nil, fzs_cons, fCall_e, kCall_o, kCall'_o, kCall'_x, kPut_o, putB_nil, putB_cons, kB1_s, kB1_n, kB2_n, outs_nil, outs_cons, kOuts_o, kCons_o, kOut_o, fn_e, kFn_nx, kFn_rt, kFn_x, fFor_e, kFor_o, kFor_x, loop_nil, loop_cons, kLoop_o, kLoop_nx, kLoop_ct, kLoop_bk, kLoop_rt, fIt_e, kIt_l, kIt_t, fR1_e, kR1_o, fR2_e, kR2_o, fR3_e, kR3_o, fGn_e, fGt_e, fGs1_e, kGs_o, fGs0_e, fAsg_e, kAsg_o, kAsg'_o, isL_e, kL_l, fApp_e, kApp_o, kApp'_o, fExt_e, kExt_o, kExt'_o, fPop_e, kPop_l, kPop'_o, fRev_e, kRev_l, fP0_e, fP1_e, kP1_i, fSl_e, kSl_o, kSl1_o, kSl2_o, fSetL_e, kSL_o, kSL1_o, fLc_e, kLc_o, kLc'_o, wipe_nil, wipe_cons, lcl_nil, lcl_cons, kLc1_o, kLc2_t, kLc2_f, kLc3_o, fYes_e, fD0_e, fDput_e, kDp_o, kDp1_o, kO_int, kDp2_o, isD_e, kD_d, fForD_e, noXF_e, kFD_d, noX_o, fSf_e, kSf_1, isI_e, kI_0, fMeth_e, kMe_o, kMe1_o, kMe2_o, fRaise_e, kRet_x, kSet_x, kIfS_x, kLoop_x, kCall_x, kB_x, kNot_x, kO2_x, fTry_e, kTry_x, kTry1_t, kTry1_f, kTry_o, deadE_nil, deadE_v, deadE_n, deadE_l, deadE_d, deadE_i, fzKs_nil, fT0_e, fz_dtt, kV_dtt, fPkT_e, kPkT_o, fDictO_e, kDictO_d, isTT_e, kTT_d, fTput_e, kTp_o, kTp1_o, kTp2_o, sV_bl, sV_int, kT_2, kT_3, fSfSet_e, kSfS_o, kSfS'_o, kWh_t, kWh_f, kWh'_nx, fD1_e, kD1_o, kD1'_o, eq_self, Int.reduceLT, Int.reduceLE, Int.reduceEq, Int.reduceNeg, Bool.false_eq_true, if_false, Option.map_some, Option.map_none, List.map_cons, List.map_nil, List.length_cons, List.length_nil, List.cons_append, List.nil_append, Nat.reduceAdd, Nat.reduceSub, List.replicate_succ, List.replicate_zero, List.append_nil, List.getElem?_cons_zero, List.getElem?_cons_succ, List.set_cons_zero, List.set_cons_succ, if_true, reduceIte, decide_true, decide_false, Bool.not_true, Bool.not_false, e']
end L01

namespace L01
open PySem L2 Ev
open Ev.Fm (du)
theorem gSl_enc (s : Fm) : gSl s.enc (some 1) none = .ok (.val (.tup s.rest)) := by rw [Fm.enc_eq, gSl_1]
theorem isT_enc (s : Fm) : isT "tuple" s.enc = .ok (.val (.bl true)) := by rw [Fm.enc_eq]; rfl
theorem isT_int (i : Int) : isT "tuple" (.int i) = .ok (.val (.bl false)) := rfl
theorem gTuple_l (l : List PV) : gTuple [.lst l] = .ok (.val (.tup l)) := rfl
theorem l1 : 1 ≤ 10000000 := by omega
theorem l2 : 2 ≤ 10000000 := by omega
end L01

namespace L01
open PySem L2 Ev
/-! ### tidy -/
theorem isT_str (i : Str) : isT "tuple" (.str i) = .ok (.val (.bl false)) := rfl
def rnr (c : Int) : OV := .ins "Renamer" [("count", .val (.int c))]
theorem cnt_ne : ("count" : Str) ≠ "renamed" := by decide +kernel
theorem kI_r {o : OV} : kI "Renamer" "renamed" (some (some (.ins "Renamer" [("count", o)]))) = true := kI_1 cnt_ne
theorem renamed_eq : ∀ (s : Fm) (n : Nat) (nm : List (Int × Int)) (c : Int), s.ht + 1 ≤ n → nm.length + s.ht ≤ 1000 → Fm.fin (Fm.keys nm) s → prog n i_Renamer_renamed [rnr c, .val s.enc, .val (.dct (dN nm))] = .ok (.val (Fm.rn nm c s).1.enc, [rnr (Fm.rn nm c s).2])
  | s, 0, nm, c, h, _, _ => by omega
  | .leaf k, n + 1, nm, c, h, hb, hf => by
    rw [p_Renamer_renamed]
    cases k with
    | tr => rfl
    | fa => rfl
    | has f => rfl
    | lacks f => rfl
  | .var v, n + 1, nm, c, h, hb, hf => by
    have hf' : v ∈ Fm.keys nm := hf
    rw [p_Renamer_renamed]
    simp only [b_Renamer_renamed, fSeq_e, kSeq_nx, kSeq_rt, kSeq_bk, kSeq_ct, kSeq_exc, fIfS_e, kIfS_t, kIfS_f, fNx_e, fBk_e, fCt_e, fRetN_e, fRet_e, kRet_o, fExpr_e, kExpr_o, kExpr_x, fSet_e, kSet_o, fC_e, fV_e, kV_val, kV_lst, kV_dct, kV_ins, fM_e, kM_o, fZ_e, kZ_o, kG_o, ov_e, fO2_e, kO2_o, kO2'_o, fO1_e, kO1_o, fIsi_e, fB_e, kB_o, fNot_e, kNot_o, fAnd_e, kAnd_t, kAnd_f, fOr_e, kOr_t, kOr_f, fAndV_e, kAndV_t, kAndV_f, fOrV_e, kOrV_t, kOrV_f, fNotV_e, kNotV_o, fIf_e, kIf_t, kIf_f, fA0_e, fA1_e, kA1_o, kA1'_o, vls_nil, vls_cons, kVls_o, fTup_e, kTup_o, kTup'_o, fLst_e, kLst_o, fCB_e, kCB_o, kCB'_o, frE_nil, frE_c, fPk_e, kPk_int, kPk_bl, kPk_str, kPk_non, fz_val, fz_lst, fz_dct, fz_ins, fzs_nil, fzs_cons, fCall_e, kCall_o, kCall'_o, kCall'_x, kPut_o, putB_nil, putB_cons, kB1_s, kB1_n, kB2_n, outs_nil, outs_cons, kOuts_o, kCons_o, kOut_o, fn_e, kFn_nx, kFn_rt, kFn_x, fFor_e, kFor_o, kFor_x, loop_nil, loop_cons, kLoop_o, kLoop_nx, kLoop_ct, kLoop_bk, kLoop_rt, fIt_e, kIt_l, kIt_t, fR1_e, kR1_o, fR2_e, kR2_o, fR3_e, kR3_o, fGn_e, fGt_e, fGs1_e, kGs_o, fGs0_e, fAsg_e, kAsg_o, kAsg'_o, isL_e, kL_l, fApp_e, kApp_o, kApp'_o, fExt_e, kExt_o, kExt'_o, fPop_e, kPop_l, kPop'_o, fRev_e, kRev_l, fP0_e, fP1_e, kP1_i, fSl_e, kSl_o, kSl1_o, kSl2_o, fSetL_e, kSL_o, kSL1_o, fLc_e, kLc_o, kLc'_o, wipe_nil, wipe_cons, lcl_nil, lcl_cons, kLc1_o, kLc2_t, kLc2_f, kLc3_o, fYes_e, fD0_e, fDput_e, kDp_o, kDp1_o, kO_int, kDp2_o, isD_e, kD_d, fForD_e, noXF_e, kFD_d, noX_o, fSf_e, kSf_1, isI_e, kI_0, fMeth_e, kMe_o, kMe1_o, kMe2_o, fRaise_e, kRet_x, kSet_x, kIfS_x, kLoop_x, kCall_x, kB_x, kNot_x, kO2_x, fTry_e, kTry_x, kTry1_t, kTry1_f, kTry_o, deadE_nil, deadE_v, deadE_n, deadE_l, deadE_d, deadE_i, fzKs_nil, fT0_e, fz_dtt, kV_dtt, fPkT_e, kPkT_o, fDictO_e, kDictO_d, isTT_e, kTT_d, fTput_e, kTp_o, kTp1_o, kTp2_o, sV_bl, sV_int, kT_2, kT_3, fSfSet_e, kSfS_o, kSfS'_o, kWh_t, kWh_f, kWh'_nx, fD1_e, kD1_o, kD1'_o, eq_self, Int.reduceLT, Int.reduceLE, Int.reduceEq, Int.reduceNeg, Bool.false_eq_true, if_false, Option.map_some, Option.map_none, List.map_cons, List.map_nil, List.length_cons, List.length_nil, List.cons_append, List.nil_append, Nat.reduceAdd, Nat.reduceSub, List.replicate_succ, List.replicate_zero, List.append_nil, List.getElem?_cons_zero, List.getElem?_cons_succ, List.set_cons_zero, List.set_cons_succ, if_true, reduceIte, decide_true, decide_false, Bool.not_true, Bool.not_false, gIx_0, t_var, t_B, Fm.isVar, Fm.isFix, gIx_v1, gDget_N hf', rnr, Fm.rn] <;> rfl
  | .bin o x y, n + 1, nm, c, h, hb, hf => by
    have e1 : (Fm.bin o x y).ht = max x.ht y.ht + 1 := rfl
    rw [e1] at h hb
    have i1 := renamed_eq x n nm c (by omega) (by omega) hf.1
    have i2 := renamed_eq y n nm (Fm.rn nm c x).2 (by omega) (by omega) hf.2
    have g0 : 0 + 1 ≤ 10000000 := by omega
    have g1 : 1 ≤ 10000000 := by omega
    have g2 : 2 ≤ 10000000 := by omega
    rw [p_Renamer_renamed]
    unfold rnr at i1 i2 ⊢
    simp only [b_Renamer_renamed, fSeq_e, kSeq_nx, kSeq_rt, kSeq_bk, kSeq_ct, kSeq_exc, fIfS_e, kIfS_t, kIfS_f, fNx_e, fBk_e, fCt_e, fRetN_e, fRet_e, kRet_o, fExpr_e, kExpr_o, kExpr_x, fSet_e, kSet_o, fC_e, fV_e, kV_val, kV_lst, kV_dct, kV_ins, fM_e, kM_o, fZ_e, kZ_o, kG_o, ov_e, fO2_e, kO2_o, kO2'_o, fO1_e, kO1_o, fIsi_e, fB_e, kB_o, fNot_e, kNot_o, fAnd_e, kAnd_t, kAnd_f, fOr_e, kOr_t, kOr_f, fAndV_e, kAndV_t, kAndV_f, fOrV_e, kOrV_t, kOrV_f, fNotV_e, kNotV_o, fIf_e, kIf_t, kIf_f, fA0_e, fA1_e, kA1_o, kA1'_o, vls_nil, vls_cons, kVls_o, fTup_e, kTup_o, kTup'_o, fLst_e, kLst_o, fCB_e, kCB_o, kCB'_o, frE_nil, frE_c, fPk_e, kPk_int, kPk_bl, kPk_str, kPk_non, fz_val, fz_lst, fz_dct, fz_ins, fzs_nil, fzs_cons, fCall_e, kCall_o, kCall'_o, kCall'_x, kPut_o, putB_nil, putB_cons, kB1_s, kB1_n, kB2_n, outs_nil, outs_cons, kOuts_o, kCons_o, kOut_o, fn_e, kFn_nx, kFn_rt, kFn_x, fFor_e, kFor_o, kFor_x, loop_nil, loop_cons, kLoop_o, kLoop_nx, kLoop_ct, kLoop_bk, kLoop_rt, fIt_e, kIt_l, kIt_t, fR1_e, kR1_o, fR2_e, kR2_o, fR3_e, kR3_o, fGn_e, fGt_e, fGs1_e, kGs_o, fGs0_e, fAsg_e, kAsg_o, kAsg'_o, isL_e, kL_l, fApp_e, kApp_o, kApp'_o, fExt_e, kExt_o, kExt'_o, fPop_e, kPop_l, kPop'_o, fRev_e, kRev_l, fP0_e, fP1_e, kP1_i, fSl_e, kSl_o, kSl1_o, kSl2_o, fSetL_e, kSL_o, kSL1_o, fLc_e, kLc_o, kLc'_o, wipe_nil, wipe_cons, lcl_nil, lcl_cons, kLc1_o, kLc2_t, kLc2_f, kLc3_o, fYes_e, fD0_e, fDput_e, kDp_o, kDp1_o, kO_int, kDp2_o, isD_e, kD_d, fForD_e, noXF_e, kFD_d, noX_o, fSf_e, kSf_1, isI_e, kI_0, fMeth_e, kMe_o, kMe1_o, kMe2_o, fRaise_e, kRet_x, kSet_x, kIfS_x, kLoop_x, kCall_x, kB_x, kNot_x, kO2_x, fTry_e, kTry_x, kTry1_t, kTry1_f, kTry_o, deadE_nil, deadE_v, deadE_n, deadE_l, deadE_d, deadE_i, fzKs_nil, fT0_e, fz_dtt, kV_dtt, fPkT_e, kPkT_o, fDictO_e, kDictO_d, isTT_e, kTT_d, fTput_e, kTp_o, kTp1_o, kTp2_o, sV_bl, sV_int, kT_2, kT_3, fSfSet_e, kSfS_o, kSfS'_o, kWh_t, kWh_f, kWh'_nx, fD1_e, kD1_o, kD1'_o, eq_self, Int.reduceLT, Int.reduceLE, Int.reduceEq, Int.reduceNeg, Bool.false_eq_true, if_false, Option.map_some, Option.map_none, List.map_cons, List.map_nil, List.length_cons, List.length_nil, List.cons_append, List.nil_append, Nat.reduceAdd, Nat.reduceSub, List.replicate_succ, List.replicate_zero, List.append_nil, List.getElem?_cons_zero, List.getElem?_cons_succ, List.set_cons_zero, List.set_cons_succ, if_true, reduceIte, decide_true, decide_false, Bool.not_true, Bool.not_false, gIx_0, t_var, t_B, Fm.isVar, Fm.isFix, gSl_enc, Fm.rest, isT_enc, kI_r, i1, i2, Nat.zero_add, g1, g2, gTuple_l, Fm.rn] <;> rfl
  | .mod o l x, n + 1, nm, c, h, hb, hf => by
    have e1 : (Fm.mod o l x).ht = x.ht + 1 := rfl
    rw [e1] at h hb
    have i1 := renamed_eq x n nm c (by omega) (by omega) hf
    have g1 : 1 ≤ 10000000 := by omega
    have g2 : 2 ≤ 10000000 := by omega
    rw [p_Renamer_renamed]
    unfold rnr at i1 ⊢
    simp only [b_Renamer_renamed, fSeq_e, kSeq_nx, kSeq_rt, kSeq_bk, kSeq_ct, kSeq_exc, fIfS_e, kIfS_t, kIfS_f, fNx_e, fBk_e, fCt_e, fRetN_e, fRet_e, kRet_o, fExpr_e, kExpr_o, kExpr_x, fSet_e, kSet_o, fC_e, fV_e, kV_val, kV_lst, kV_dct, kV_ins, fM_e, kM_o, fZ_e, kZ_o, kG_o, ov_e, fO2_e, kO2_o, kO2'_o, fO1_e, kO1_o, fIsi_e, fB_e, kB_o, fNot_e, kNot_o, fAnd_e, kAnd_t, kAnd_f, fOr_e, kOr_t, kOr_f, fAndV_e, kAndV_t, kAndV_f, fOrV_e, kOrV_t, kOrV_f, fNotV_e, kNotV_o, fIf_e, kIf_t, kIf_f, fA0_e, fA1_e, kA1_o, kA1'_o, vls_nil, vls_cons, kVls_o, fTup_e, kTup_o, kTup'_o, fLst_e, kLst_o, fCB_e, kCB_o, kCB'_o, frE_nil, frE_c, fPk_e, kPk_int, kPk_bl, kPk_str, kPk_non, fz_val, fz_lst, fz_dct, fz_ins, fzs_nil, fzs_cons, fCall_e, kCall_o, kCall'_o, kCall'_x, kPut_o, putB_nil, putB_cons, kB1_s, kB1_n, kB2_n, outs_nil, outs_cons, kOuts_o, kCons_o, kOut_o, fn_e, kFn_nx, kFn_rt, kFn_x, fFor_e, kFor_o, kFor_x, loop_nil, loop_cons, kLoop_o, kLoop_nx, kLoop_ct, kLoop_bk, kLoop_rt, fIt_e, kIt_l, kIt_t, fR1_e, kR1_o, fR2_e, kR2_o, fR3_e, kR3_o, fGn_e, fGt_e, fGs1_e, kGs_o, fGs0_e, fAsg_e, kAsg_o, kAsg'_o, isL_e, kL_l, fApp_e, kApp_o, kApp'_o, fExt_e, kExt_o, kExt'_o, fPop_e, kPop_l, kPop'_o, fRev_e, kRev_l, fP0_e, fP1_e, kP1_i, fSl_e, kSl_o, kSl1_o, kSl2_o, fSetL_e, kSL_o, kSL1_o, fLc_e, kLc_o, kLc'_o, wipe_nil, wipe_cons, lcl_nil, lcl_cons, kLc1_o, kLc2_t, kLc2_f, kLc3_o, fYes_e, fD0_e, fDput_e, kDp_o, kDp1_o, kO_int, kDp2_o, isD_e, kD_d, fForD_e, noXF_e, kFD_d, noX_o, fSf_e, kSf_1, isI_e, kI_0, fMeth_e, kMe_o, kMe1_o, kMe2_o, fRaise_e, kRet_x, kSet_x, kIfS_x, kLoop_x, kCall_x, kB_x, kNot_x, kO2_x, fTry_e, kTry_x, kTry1_t, kTry1_f, kTry_o, deadE_nil, deadE_v, deadE_n, deadE_l, deadE_d, deadE_i, fzKs_nil, fT0_e, fz_dtt, kV_dtt, fPkT_e, kPkT_o, fDictO_e, kDictO_d, isTT_e, kTT_d, fTput_e, kTp_o, kTp1_o, kTp2_o, sV_bl, sV_int, kT_2, kT_3, fSfSet_e, kSfS_o, kSfS'_o, kWh_t, kWh_f, kWh'_nx, fD1_e, kD1_o, kD1'_o, eq_self, Int.reduceLT, Int.reduceLE, Int.reduceEq, Int.reduceNeg, Bool.false_eq_true, if_false, Option.map_some, Option.map_none, List.map_cons, List.map_nil, List.length_cons, List.length_nil, List.cons_append, List.nil_append, Nat.reduceAdd, Nat.reduceSub, List.replicate_succ, List.replicate_zero, List.append_nil, List.getElem?_cons_zero, List.getElem?_cons_succ, List.set_cons_zero, List.set_cons_succ, if_true, reduceIte, decide_true, decide_false, Bool.not_true, Bool.not_false, gIx_0, t_var, t_B, Fm.isVar, Fm.isFix, gSl_enc, Fm.rest, isT_enc, isT_int, kI_r, i1, Nat.zero_add, g1, g2, gTuple_l, Fm.rn] <;> rfl
  | .fix o v x, n + 1, nm, c, h, hb, hf => by
    have e1 : (Fm.fix o v x).ht = x.ht + 1 := rfl
    rw [e1] at h hb
    have hk : Fm.keys (Fm.put nm v c) = Fm.ins (Fm.keys nm) v := Fm.keys_put
    have hl : (Fm.put nm v c).length ≤ nm.length + 1 := by
      have e2 : (Fm.put nm v c).length = (Fm.keys (Fm.put nm v c)).length := by unfold Fm.keys; rw [List.length_map]
      rw [e2, hk]
      unfold Fm.ins Fm.keys
      split
      · rw [List.length_map]; omega
      · rw [List.length_append, List.length_map]; simp
    have i1 := renamed_eq x n (Fm.put nm v c) (c + 1) (by omega) (by omega) (by
      rw [hk]
      exact Fm.fin_mono (fun u hu => by
        rcases List.mem_append.mp hu with z | z
        · exact Fm.mem_ins.mpr (.inl z)
        · exact Fm.mem_ins.mpr (.inr (by simpa using z))) hf)
    have g1 : (dNo nm).length < 10000000 := by
      unfold dNo
      rw [List.length_map]
      omega
    have a1 : ∀ (p2 p3 p4 p5 p6 p7 p8 : Option OV), fSfAug "Renamer" "count" 0 gAddI (fC (.int 1)) [some (.ins "Renamer" [("count", .val (.int c))]), p2, p3, p4, p5, p6, p7, p8] = .ok (.nx, [some (.ins "Renamer" [("count", .val (.int (c + 1)))]), p2, p3, p4, p5, p6, p7, p8]) := fun p2 p3 p4 p5 p6 p7 p8 =>
      fSfAug_1 (e := [some (.ins "Renamer" [("count", .val (.int c))]), p2, p3, p4, p5, p6, p7, p8]) (p := .int c) (q := .int 1) (q' := .int (c + 1)) rfl rfl rfl rfl
    rw [p_Renamer_renamed]
    unfold rnr at i1 ⊢
    simp only [b_Renamer_renamed, fSeq_e, kSeq_nx, kSeq_rt, kSeq_bk, kSeq_ct, kSeq_exc, fIfS_e, kIfS_t, kIfS_f, fNx_e, fBk_e, fCt_e, fRetN_e, fRet_e, kRet_o, fExpr_e, kExpr_o, kExpr_x, fSet_e, kSet_o, fC_e, fV_e, kV_val, kV_lst, kV_dct, kV_ins, fM_e, kM_o, fZ_e, kZ_o, kG_o, ov_e, fO2_e, kO2_o, kO2'_o, fO1_e, kO1_o, fIsi_e, fB_e, kB_o, fNot_e, kNot_o, fAnd_e, kAnd_t, kAnd_f, fOr_e, kOr_t, kOr_f, fAndV_e, kAndV_t, kAndV_f, fOrV_e, kOrV_t, kOrV_f, fNotV_e, kNotV_o, fIf_e, kIf_t, kIf_f, fA0_e, fA1_e, kA1_o, kA1'_o, vls_nil, vls_cons, kVls_o, fTup_e, kTup_o, kTup'_o, fLst_e, kLst_o, fCB_e, kCB_o, kCB'_o, frE_nil, frE_c, fPk_e, kPk_int, kPk_bl, kPk_str, kPk_non, fz_val, fz_lst, fz_dct, fz_ins, fzs_nil, fzs_cons, fCall_e, kCall_o, kCall'_o, kCall'_x, kPut_o, putB_nil, putB_cons, kB1_s, kB1_n, kB2_n, outs_nil, outs_cons, kOuts_o, kCons_o, kOut_o, fn_e, kFn_nx, kFn_rt, kFn_x, fFor_e, kFor_o, kFor_x, loop_nil, loop_cons, kLoop_o, kLoop_nx, kLoop_ct, kLoop_bk, kLoop_rt, fIt_e, kIt_l, kIt_t, fR1_e, kR1_o, fR2_e, kR2_o, fR3_e, kR3_o, fGn_e, fGt_e, fGs1_e, kGs_o, fGs0_e, fAsg_e, kAsg_o, kAsg'_o, isL_e, kL_l, fApp_e, kApp_o, kApp'_o, fExt_e, kExt_o, kExt'_o, fPop_e, kPop_l, kPop'_o, fRev_e, kRev_l, fP0_e, fP1_e, kP1_i, fSl_e, kSl_o, kSl1_o, kSl2_o, fSetL_e, kSL_o, kSL1_o, fLc_e, kLc_o, kLc'_o, wipe_nil, wipe_cons, lcl_nil, lcl_cons, kLc1_o, kLc2_t, kLc2_f, kLc3_o, fYes_e, fD0_e, fDput_e, kDp_o, kDp1_o, kO_int, kDp2_o, isD_e, kD_d, fForD_e, noXF_e, kFD_d, noX_o, fSf_e, kSf_1, isI_e, kI_0, fMeth_e, kMe_o, kMe1_o, kMe2_o, fRaise_e, kRet_x, kSet_x, kIfS_x, kLoop_x, kCall_x, kB_x, kNot_x, kO2_x, fTry_e, kTry_x, kTry1_t, kTry1_f, kTry_o, deadE_nil, deadE_v, deadE_n, deadE_l, deadE_d, deadE_i, fzKs_nil, fT0_e, fz_dtt, kV_dtt, fPkT_e, kPkT_o, fDictO_e, kDictO_d, isTT_e, kTT_d, fTput_e, kTp_o, kTp1_o, kTp2_o, sV_bl, sV_int, kT_2, kT_3, fSfSet_e, kSfS_o, kSfS'_o, kWh_t, kWh_f, kWh'_nx, fD1_e, kD1_o, kD1'_o, eq_self, Int.reduceLT, Int.reduceLE, Int.reduceEq, Int.reduceNeg, Bool.false_eq_true, if_false, Option.map_some, Option.map_none, List.map_cons, List.map_nil, List.length_cons, List.length_nil, List.cons_append, List.nil_append, Nat.reduceAdd, Nat.reduceSub, List.replicate_succ, List.replicate_zero, List.append_nil, List.getElem?_cons_zero, List.getElem?_cons_succ, List.set_cons_zero, List.set_cons_succ, if_true, reduceIte, decide_true, decide_false, Bool.not_true, Bool.not_false, gIx_0, t_var, t_B, Fm.isVar, Fm.isFix, gIx_f1, gIx_f2, gDict_N, putO_N, fz_N, a1, g1, kI_r, i1, Fm.rn] <;> rfl
theorem init_eq (n : Nat) : prog (n + 1) i_Renamer_init [.ins "Renamer" []] = .ok (.val .non, [rnr 0]) := by
  rw [p_Renamer_init, fn_e]
  show kFn [0] (b_Renamer_init (prog n) [some (.ins "Renamer" [])]) = _
  unfold b_Renamer_init
  rw [fSfSet_0 (o := .val (.int 0)) (e := [some (.ins "Renamer" [])]) rfl rfl]
  rfl
theorem tidy_eq (s : Fm) (n : Nat) (h : s.ht + 5 ≤ n) (hh : s.ht ≤ 900) (hv : s.nv < 64) (hc : Fm.fin [] s) : prog n i_tidy [.val s.enc] = .ok (.val (Fm.rn [] 0 s).1.enc, []) := by
  obtain ⟨m, rfl⟩ : ∃ m, n = m + 2 := ⟨n - 2, by omega⟩
  have i1 := renamed_eq s (m + 1) [] 0 (by omega) (by rw [List.length_nil]; omega) hc
  have a1 : fMethE "Renamer" "renamed" (prog (m + 1) i_Renamer_renamed) [0] [none, none] (fMake "Renamer" (prog (m + 1) i_Renamer_init) fA0) (fA1 (fV 0) (fA1 (fZ fD0) fA0)) [some (.val s.enc)] = .ok (.val (Fm.rn [] 0 s).1.enc, [some (.val s.enc)]) :=
    fMethE_1 (o := rnr 0) (e := [some (.val s.enc)]) (os := [.val s.enc, .val (.dct [])]) (e2 := [some (.val s.enc)]) (outs := [rnr (Fm.rn [] 0 s).2]) (fMake_1 (os := []) (e := [some (.val s.enc)]) rfl (init_eq m)) (by decide +kernel) rfl i1 rfl
  rw [p_tidy]
  simp only [b_tidy, fSeq_e, kSeq_nx, kSeq_rt, kSeq_bk, kSeq_ct, kSeq_exc, fIfS_e, kIfS_t, kIfS_f, fNx_e, fBk_e, fCt_e, fRetN_e, fRet_e, kRet_o, fExpr_e, kExpr_o, kExpr_x, fSet_e, kSet_o, fC_e, fV_e, kV_val, kV_lst, kV_dct, kV_ins, fM_e, kM_o, fZ_e, kZ_o, kG_o, ov_e, fO2_e, kO2_o, kO2'_o, fO1_e, kO1_o, fIsi_e, fB_e, kB_o, fNot_e, kNot_o, fAnd_e, kAnd_t, kAnd_f, fOr_e, kOr_t, kOr_f, fAndV_e, kAndV_t, kAndV_f, fOrV_e, kOrV_t, kOrV_f, fNotV_e, kNotV_o, fIf_e, kIf_t, kIf_f, fA0_e, fA1_e, kA1_o, kA1'_o, vls_nil, vls_cons, kVls_o, fTup_e, kTup_o, kTup'_o, fLst_e, kLst_o, fCB_e, kCB_o, kCB'_o, frE_nil, frE_c, fPk_e, kPk_int, kPk_bl, kPk_str, kPk_non, fz_val, fz_lst, fz_dct, fz_ins, fzs_nil, fzs_cons, fCall_e, kCall_o, kCall'_o, kCall'_x, kPut_o, putB_nil, putB_cons, kB1_s, kB1_n, kB2_n, outs_nil, outs_cons, kOuts_o, kCons_o, kOut_o, fn_e, kFn_nx, kFn_rt, kFn_x, fFor_e, kFor_o, kFor_x, loop_nil, loop_cons, kLoop_o, kLoop_nx, kLoop_ct, kLoop_bk, kLoop_rt, fIt_e, kIt_l, kIt_t, fR1_e, kR1_o, fR2_e, kR2_o, fR3_e, kR3_o, fGn_e, fGt_e, fGs1_e, kGs_o, fGs0_e, fAsg_e, kAsg_o, kAsg'_o, isL_e, kL_l, fApp_e, kApp_o, kApp'_o, fExt_e, kExt_o, kExt'_o, fPop_e, kPop_l, kPop'_o, fRev_e, kRev_l, fP0_e, fP1_e, kP1_i, fSl_e, kSl_o, kSl1_o, kSl2_o, fSetL_e, kSL_o, kSL1_o, fLc_e, kLc_o, kLc'_o, wipe_nil, wipe_cons, lcl_nil, lcl_cons, kLc1_o, kLc2_t, kLc2_f, kLc3_o, fYes_e, fD0_e, fDput_e, kDp_o, kDp1_o, kO_int, kDp2_o, isD_e, kD_d, fForD_e, noXF_e, kFD_d, noX_o, fSf_e, kSf_1, isI_e, kI_0, fMeth_e, kMe_o, kMe1_o, kMe2_o, fRaise_e, kRet_x, kSet_x, kIfS_x, kLoop_x, kCall_x, kB_x, kNot_x, kO2_x, fTry_e, kTry_x, kTry1_t, kTry1_f, kTry_o, deadE_nil, deadE_v, deadE_n, deadE_l, deadE_d, deadE_i, fzKs_nil, fT0_e, fz_dtt, kV_dtt, fPkT_e, kPkT_o, fDictO_e, kDictO_d, isTT_e, kTT_d, fTput_e, kTp_o, kTp1_o, kTp2_o, sV_bl, sV_int, kT_2, kT_3, fSfSet_e, kSfS_o, kSfS'_o, kWh_t, kWh_f, kWh'_nx, fD1_e, kD1_o, kD1'_o, eq_self, Int.reduceLT, Int.reduceLE, Int.reduceEq, Int.reduceNeg, Bool.false_eq_true, if_false, Option.map_some, Option.map_none, List.map_cons, List.map_nil, List.length_cons, List.length_nil, List.cons_append, List.nil_append, Nat.reduceAdd, Nat.reduceSub, List.replicate_succ, List.replicate_zero, List.append_nil, List.getElem?_cons_zero, List.getElem?_cons_succ, List.set_cons_zero, List.set_cons_succ, if_true, reduceIte, decide_true, decide_false, Bool.not_true, Bool.not_false, check_eq s (m + 1) (by omega) hh hv hc, a1]
theorem copy_loop {g1 g2 g5 g6 g7 g8 : Option OV} {nm : List (Int × Int)} : ∀ (l done : List (Int × Int)) (g4 : Option OV), nm = done ++ l → (Fm.keys nm).Nodup → nm.length ≤ 1000 →
    ∃ g4', fLoop (fGn 4) (noXF (fDput 3 (fV 4) (fO2 gDget (fV 1) (fV 4)))) ((dN l).map (·.1)) [g1, some (.val (.dct (dN nm))), g2, some (.dct (dNo done)), g4, g5, g6, g7, g8] = .ok (.nx, [g1, some (.val (.dct (dN nm))), g2, some (.dct (dNo nm)), g4', g5, g6, g7, g8])
  | [], done, g4, e, _, _ => by
    refine ⟨g4, ?_⟩
    rw [List.append_nil] at e
    rw [e]
    rfl
  | (k, c) :: l, done, g4, e, hn, hl => by
    have hk : k ∈ Fm.keys nm := by rw [e]; unfold Fm.keys; simp
    have hd : ∀ (d l : List (Int × Int)) (k c : Int), (Fm.keys (d ++ (k, c) :: l)).Nodup → Fm.get (d ++ (k, c) :: l) k = c ∧ Fm.put d k c = d ++ [(k, c)] := by
      intro d l k c h
      have hk' : k ∉ Fm.keys d := by
        intro z
        unfold Fm.keys at h z
        rw [List.map_append, List.nodup_append] at h
        exact h.2.2 k z k (by simp) rfl
      constructor
      · induction d with
        | nil => show (if k = k then c else _) = c; rw [if_pos rfl]
        | cons a d ih =>
          obtain ⟨a1, a2⟩ := a
          show (if a1 = k then a2 else Fm.get (d ++ (k, c) :: l) k) = c
          have : ¬ a1 = k := fun z => hk' (by rw [← z]; unfold Fm.keys; simp)
          rw [if_neg this]
          refine ih ?_ fun z => hk' (by unfold Fm.keys at z ⊢; rw [List.map_cons]; exact List.mem_cons_of_mem _ z)
          unfold Fm.keys at h ⊢
          rw [List.cons_append, List.map_cons, List.nodup_cons] at h
          exact h.2
      · unfold Fm.put
        rw [if_neg]
        intro z
        apply hk'
        unfold Fm.keys
        simpa using z
    obtain ⟨e1, e2⟩ := hd done l k c (e ▸ hn)
    have e1' : Fm.get nm k = c := by rw [e]; exact e1
    obtain ⟨g4', e3⟩ := copy_loop (g1 := g1) (g2 := g2) (g5 := g5) (g6 := g6) (g7 := g7) (g8 := g8) l (done ++ [(k, c)]) (some (.val (.int k))) (by rw [e]; simp) hn hl
    refine ⟨g4', ?_⟩
    have hlen : (dNo done).length < 10000000 := by
      unfold dNo
      rw [List.length_map]
      have : nm.length = done.length + (l.length + 1) := by rw [e]; simp
      omega
    have eN : (dN ((k, c) :: l)).map (·.1) = .int k :: (dN l).map (·.1) := rfl
    rw [eN, loop_cons]
    simp only [fSeq_e, kSeq_nx, kSeq_rt, kSeq_bk, kSeq_ct, kSeq_exc, fIfS_e, kIfS_t, kIfS_f, fNx_e, fBk_e, fCt_e, fRetN_e, fRet_e, kRet_o, fExpr_e, kExpr_o, kExpr_x, fSet_e, kSet_o, fC_e, fV_e, kV_val, kV_lst, kV_dct, kV_ins, fM_e, kM_o, fZ_e, kZ_o, kG_o, ov_e, fO2_e, kO2_o, kO2'_o, fO1_e, kO1_o, fIsi_e, fB_e, kB_o, fNot_e, kNot_o, fAnd_e, kAnd_t, kAnd_f, fOr_e, kOr_t, kOr_f, fAndV_e, kAndV_t, kAndV_f, fOrV_e, kOrV_t, kOrV_f, fNotV_e, kNotV_o, fIf_e, kIf_t, kIf_f, fA0_e, fA1_e, kA1_o, kA1'_o, vls_nil, vls_cons, kVls_o, fTup_e, kTup_o, kTup'_o, fLst_e, kLst_o, fCB_e, kCB_o, kCB'_o, frE_nil, frE_c, fPk_e, kPk_int, kPk_bl, kPk_str, kPk_non, fz_val, fz_lst, fz_dct, fz_ins, fzs_nil, fzs_cons, fCall_e, kCall_o, kCall'_o, kCall'_x, kPut_o, putB_nil, putB_cons, kB1_s, kB1_n, kB2_n, outs_nil, outs_cons, kOuts_o, kCons_o, kOut_o, fn_e, kFn_nx, kFn_rt, kFn_x, fFor_e, kFor_o, kFor_x, loop_nil, loop_cons, kLoop_o, kLoop_nx, kLoop_ct, kLoop_bk, kLoop_rt, fIt_e, kIt_l, kIt_t, fR1_e, kR1_o, fR2_e, kR2_o, fR3_e, kR3_o, fGn_e, fGt_e, fGs1_e, kGs_o, fGs0_e, fAsg_e, kAsg_o, kAsg'_o, isL_e, kL_l, fApp_e, kApp_o, kApp'_o, fExt_e, kExt_o, kExt'_o, fPop_e, kPop_l, kPop'_o, fRev_e, kRev_l, fP0_e, fP1_e, kP1_i, fSl_e, kSl_o, kSl1_o, kSl2_o, fSetL_e, kSL_o, kSL1_o, fLc_e, kLc_o, kLc'_o, wipe_nil, wipe_cons, lcl_nil, lcl_cons, kLc1_o, kLc2_t, kLc2_f, kLc3_o, fYes_e, fD0_e, fDput_e, kDp_o, kDp1_o, kO_int, kDp2_o, isD_e, kD_d, fForD_e, noXF_e, kFD_d, noX_o, fSf_e, kSf_1, isI_e, kI_0, fMeth_e, kMe_o, kMe1_o, kMe2_o, fRaise_e, kRet_x, kSet_x, kIfS_x, kLoop_x, kCall_x, kB_x, kNot_x, kO2_x, fTry_e, kTry_x, kTry1_t, kTry1_f, kTry_o, deadE_nil, deadE_v, deadE_n, deadE_l, deadE_d, deadE_i, fzKs_nil, fT0_e, fz_dtt, kV_dtt, fPkT_e, kPkT_o, fDictO_e, kDictO_d, isTT_e, kTT_d, fTput_e, kTp_o, kTp1_o, kTp2_o, sV_bl, sV_int, kT_2, kT_3, fSfSet_e, kSfS_o, kSfS'_o, kWh_t, kWh_f, kWh'_nx, fD1_e, kD1_o, kD1'_o, eq_self, Int.reduceLT, Int.reduceLE, Int.reduceEq, Int.reduceNeg, Bool.false_eq_true, if_false, Option.map_some, Option.map_none, List.map_cons, List.map_nil, List.length_cons, List.length_nil, List.cons_append, List.nil_append, Nat.reduceAdd, Nat.reduceSub, List.replicate_succ, List.replicate_zero, List.append_nil, List.getElem?_cons_zero, List.getElem?_cons_succ, List.set_cons_zero, List.set_cons_succ, if_true, reduceIte, decide_true, decide_false, Bool.not_true, Bool.not_false, gDget_N hk, e1', hlen, putO_N, e2, e3]
theorem tidy_from_eq : ∀ (s : Fm) (n : Nat) (nm : List (Int × Int)) (c : Int), s.ht + 1 ≤ n → nm.length + s.ht ≤ 1000 → (Fm.keys nm).Nodup → Fm.fin (Fm.keys nm) s → prog n i__law_tidy_from [.val s.enc, .val (.dct (dN nm)), .val (.int c)] = .ok (.val (.tup [(Fm.rn nm c s).1.enc, .int (Fm.rn nm c s).2]), [])
  | s, 0, nm, c, h, _, _, _ => by omega
  | .leaf k, n + 1, nm, c, h, hb, hn, hf => by
    rw [p__law_tidy_from]
    cases k with
    | tr => rfl
    | fa => rfl
    | has f => rfl
    | lacks f => rfl
  | .var v, n + 1, nm, c, h, hb, hn, hf => by
    have hf' : v ∈ Fm.keys nm := hf
    rw [p__law_tidy_from]
    simp only [b__law_tidy_from, fSeq_e, kSeq_nx, kSeq_rt, kSeq_bk, kSeq_ct, kSeq_exc, fIfS_e, kIfS_t, kIfS_f, fNx_e, fBk_e, fCt_e, fRetN_e, fRet_e, kRet_o, fExpr_e, kExpr_o, kExpr_x, fSet_e, kSet_o, fC_e, fV_e, kV_val, kV_lst, kV_dct, kV_ins, fM_e, kM_o, fZ_e, kZ_o, kG_o, ov_e, fO2_e, kO2_o, kO2'_o, fO1_e, kO1_o, fIsi_e, fB_e, kB_o, fNot_e, kNot_o, fAnd_e, kAnd_t, kAnd_f, fOr_e, kOr_t, kOr_f, fAndV_e, kAndV_t, kAndV_f, fOrV_e, kOrV_t, kOrV_f, fNotV_e, kNotV_o, fIf_e, kIf_t, kIf_f, fA0_e, fA1_e, kA1_o, kA1'_o, vls_nil, vls_cons, kVls_o, fTup_e, kTup_o, kTup'_o, fLst_e, kLst_o, fCB_e, kCB_o, kCB'_o, frE_nil, frE_c, fPk_e, kPk_int, kPk_bl, kPk_str, kPk_non, fz_val, fz_lst, fz_dct, fz_ins, fzs_nil, fzs_cons, fCall_e, kCall_o, kCall'_o, kCall'_x, kPut_o, putB_nil, putB_cons, kB1_s, kB1_n, kB2_n, outs_nil, outs_cons, kOuts_o, kCons_o, kOut_o, fn_e, kFn_nx, kFn_rt, kFn_x, fFor_e, kFor_o, kFor_x, loop_nil, loop_cons, kLoop_o, kLoop_nx, kLoop_ct, kLoop_bk, kLoop_rt, fIt_e, kIt_l, kIt_t, fR1_e, kR1_o, fR2_e, kR2_o, fR3_e, kR3_o, fGn_e, fGt_e, fGs1_e, kGs_o, fGs0_e, fAsg_e, kAsg_o, kAsg'_o, isL_e, kL_l, fApp_e, kApp_o, kApp'_o, fExt_e, kExt_o, kExt'_o, fPop_e, kPop_l, kPop'_o, fRev_e, kRev_l, fP0_e, fP1_e, kP1_i, fSl_e, kSl_o, kSl1_o, kSl2_o, fSetL_e, kSL_o, kSL1_o, fLc_e, kLc_o, kLc'_o, wipe_nil, wipe_cons, lcl_nil, lcl_cons, kLc1_o, kLc2_t, kLc2_f, kLc3_o, fYes_e, fD0_e, fDput_e, kDp_o, kDp1_o, kO_int, kDp2_o, isD_e, kD_d, fForD_e, noXF_e, kFD_d, noX_o, fSf_e, kSf_1, isI_e, kI_0, fMeth_e, kMe_o, kMe1_o, kMe2_o, fRaise_e, kRet_x, kSet_x, kIfS_x, kLoop_x, kCall_x, kB_x, kNot_x, kO2_x, fTry_e, kTry_x, kTry1_t, kTry1_f, kTry_o, deadE_nil, deadE_v, deadE_n, deadE_l, deadE_d, deadE_i, fzKs_nil, fT0_e, fz_dtt, kV_dtt, fPkT_e, kPkT_o, fDictO_e, kDictO_d, isTT_e, kTT_d, fTput_e, kTp_o, kTp1_o, kTp2_o, sV_bl, sV_int, kT_2, kT_3, fSfSet_e, kSfS_o, kSfS'_o, kWh_t, kWh_f, kWh'_nx, fD1_e, kD1_o, kD1'_o, eq_self, Int.reduceLT, Int.reduceLE, Int.reduceEq, Int.reduceNeg, Bool.false_eq_true, if_false, Option.map_some, Option.map_none, List.map_cons, List.map_nil, List.length_cons, List.length_nil, List.cons_append, List.nil_append, Nat.reduceAdd, Nat.reduceSub, List.replicate_succ, List.replicate_zero, List.append_nil, List.getElem?_cons_zero, List.getElem?_cons_succ, List.set_cons_zero, List.set_cons_succ, if_true, reduceIte, decide_true, decide_false, Bool.not_true, Bool.not_false, gIx_0, t_var, t_LM, Fm.isVar, Fm.isFix, gIx_v1, gDget_N hf', Fm.rn] <;> rfl
  | .bin o x y, n + 1, nm, c, h, hb, hn, hf => by
    have e1 : (Fm.bin o x y).ht = max x.ht y.ht + 1 := rfl
    rw [e1] at h hb
    have i1 := tidy_from_eq x n nm c (by omega) (by omega) hn hf.1
    have i2 := tidy_from_eq y n nm (Fm.rn nm c x).2 (by omega) (by omega) hn hf.2
    have g0 : 0 ≤ 10000000 := by omega
    have g1 : 1 ≤ 10000000 := by omega
    have g2 : 2 ≤ 10000000 := by omega
    have eE : Fm.enc (.bin o x y) = .tup [.str (sBin o), x.enc, y.enc] := rfl
    rw [p__law_tidy_from]
    simp only [b__law_tidy_from, fSeq_e, kSeq_nx, kSeq_rt, kSeq_bk, kSeq_ct, kSeq_exc, fIfS_e, kIfS_t, kIfS_f, fNx_e, fBk_e, fCt_e, fRetN_e, fRet_e, kRet_o, fExpr_e, kExpr_o, kExpr_x, fSet_e, kSet_o, fC_e, fV_e, kV_val, kV_lst, kV_dct, kV_ins, fM_e, kM_o, fZ_e, kZ_o, kG_o, ov_e, fO2_e, kO2_o, kO2'_o, fO1_e, kO1_o, fIsi_e, fB_e, kB_o, fNot_e, kNot_o, fAnd_e, kAnd_t, kAnd_f, fOr_e, kOr_t, kOr_f, fAndV_e, kAndV_t, kAndV_f, fOrV_e, kOrV_t, kOrV_f, fNotV_e, kNotV_o, fIf_e, kIf_t, kIf_f, fA0_e, fA1_e, kA1_o, kA1'_o, vls_nil, vls_cons, kVls_o, fTup_e, kTup_o, kTup'_o, fLst_e, kLst_o, fCB_e, kCB_o, kCB'_o, frE_nil, frE_c, fPk_e, kPk_int, kPk_bl, kPk_str, kPk_non, fz_val, fz_lst, fz_dct, fz_ins, fzs_nil, fzs_cons, fCall_e, kCall_o, kCall'_o, kCall'_x, kPut_o, putB_nil, putB_cons, kB1_s, kB1_n, kB2_n, outs_nil, outs_cons, kOuts_o, kCons_o, kOut_o, fn_e, kFn_nx, kFn_rt, kFn_x, fFor_e, kFor_o, kFor_x, loop_nil, loop_cons, kLoop_o, kLoop_nx, kLoop_ct, kLoop_bk, kLoop_rt, fIt_e, kIt_l, kIt_t, fR1_e, kR1_o, fR2_e, kR2_o, fR3_e, kR3_o, fGn_e, fGt_e, fGs1_e, kGs_o, fGs0_e, fAsg_e, kAsg_o, kAsg'_o, isL_e, kL_l, fApp_e, kApp_o, kApp'_o, fExt_e, kExt_o, kExt'_o, fPop_e, kPop_l, kPop'_o, fRev_e, kRev_l, fP0_e, fP1_e, kP1_i, fSl_e, kSl_o, kSl1_o, kSl2_o, fSetL_e, kSL_o, kSL1_o, fLc_e, kLc_o, kLc'_o, wipe_nil, wipe_cons, lcl_nil, lcl_cons, kLc1_o, kLc2_t, kLc2_f, kLc3_o, fYes_e, fD0_e, fDput_e, kDp_o, kDp1_o, kO_int, kDp2_o, isD_e, kD_d, fForD_e, noXF_e, kFD_d, noX_o, fSf_e, kSf_1, isI_e, kI_0, fMeth_e, kMe_o, kMe1_o, kMe2_o, fRaise_e, kRet_x, kSet_x, kIfS_x, kLoop_x, kCall_x, kB_x, kNot_x, kO2_x, fTry_e, kTry_x, kTry1_t, kTry1_f, kTry_o, deadE_nil, deadE_v, deadE_n, deadE_l, deadE_d, deadE_i, fzKs_nil, fT0_e, fz_dtt, kV_dtt, fPkT_e, kPkT_o, fDictO_e, kDictO_d, isTT_e, kTT_d, fTput_e, kTp_o, kTp1_o, kTp2_o, sV_bl, sV_int, kT_2, kT_3, fSfSet_e, kSfS_o, kSfS'_o, kWh_t, kWh_f, kWh'_nx, fD1_e, kD1_o, kD1'_o, eq_self, Int.reduceLT, Int.reduceLE, Int.reduceEq, Int.reduceNeg, Bool.false_eq_true, if_false, Option.map_some, Option.map_none, List.map_cons, List.map_nil, List.length_cons, List.length_nil, List.cons_append, List.nil_append, Nat.reduceAdd, Nat.reduceSub, List.replicate_succ, List.replicate_zero, List.append_nil, List.getElem?_cons_zero, List.getElem?_cons_succ, List.set_cons_zero, List.set_cons_succ, if_true, reduceIte, decide_true, decide_false, Bool.not_true, Bool.not_false, gIx_0, t_var, t_LM, Fm.isVar, Fm.isFix, Fm.rn]
    simp only [fSeq_e, kSeq_nx, kSeq_rt, kSeq_bk, kSeq_ct, kSeq_exc, fIfS_e, kIfS_t, kIfS_f, fNx_e, fBk_e, fCt_e, fRetN_e, fRet_e, kRet_o, fExpr_e, kExpr_o, kExpr_x, fSet_e, kSet_o, fC_e, fV_e, kV_val, kV_lst, kV_dct, kV_ins, fM_e, kM_o, fZ_e, kZ_o, kG_o, ov_e, fO2_e, kO2_o, kO2'_o, fO1_e, kO1_o, fIsi_e, fB_e, kB_o, fNot_e, kNot_o, fAnd_e, kAnd_t, kAnd_f, fOr_e, kOr_t, kOr_f, fAndV_e, kAndV_t, kAndV_f, fOrV_e, kOrV_t, kOrV_f, fNotV_e, kNotV_o, fIf_e, kIf_t, kIf_f, fA0_e, fA1_e, kA1_o, kA1'_o, vls_nil, vls_cons, kVls_o, fTup_e, kTup_o, kTup'_o, fLst_e, kLst_o, fCB_e, kCB_o, kCB'_o, frE_nil, frE_c, fPk_e, kPk_int, kPk_bl, kPk_str, kPk_non, fz_val, fz_lst, fz_dct, fz_ins, fzs_nil, fzs_cons, fCall_e, kCall_o, kCall'_o, kCall'_x, kPut_o, putB_nil, putB_cons, kB1_s, kB1_n, kB2_n, outs_nil, outs_cons, kOuts_o, kCons_o, kOut_o, fn_e, kFn_nx, kFn_rt, kFn_x, fFor_e, kFor_o, kFor_x, loop_nil, loop_cons, kLoop_o, kLoop_nx, kLoop_ct, kLoop_bk, kLoop_rt, fIt_e, kIt_l, kIt_t, fR1_e, kR1_o, fR2_e, kR2_o, fR3_e, kR3_o, fGn_e, fGt_e, fGs1_e, kGs_o, fGs0_e, fAsg_e, kAsg_o, kAsg'_o, isL_e, kL_l, fApp_e, kApp_o, kApp'_o, fExt_e, kExt_o, kExt'_o, fPop_e, kPop_l, kPop'_o, fRev_e, kRev_l, fP0_e, fP1_e, kP1_i, fSl_e, kSl_o, kSl1_o, kSl2_o, fSetL_e, kSL_o, kSL1_o, fLc_e, kLc_o, kLc'_o, wipe_nil, wipe_cons, lcl_nil, lcl_cons, kLc1_o, kLc2_t, kLc2_f, kLc3_o, fYes_e, fD0_e, fDput_e, kDp_o, kDp1_o, kO_int, kDp2_o, isD_e, kD_d, fForD_e, noXF_e, kFD_d, noX_o, fSf_e, kSf_1, isI_e, kI_0, fMeth_e, kMe_o, kMe1_o, kMe2_o, fRaise_e, kRet_x, kSet_x, kIfS_x, kLoop_x, kCall_x, kB_x, kNot_x, kO2_x, fTry_e, kTry_x, kTry1_t, kTry1_f, kTry_o, deadE_nil, deadE_v, deadE_n, deadE_l, deadE_d, deadE_i, fzKs_nil, fT0_e, fz_dtt, kV_dtt, fPkT_e, kPkT_o, fDictO_e, kDictO_d, isTT_e, kTT_d, fTput_e, kTp_o, kTp1_o, kTp2_o, sV_bl, sV_int, kT_2, kT_3, fSfSet_e, kSfS_o, kSfS'_o, kWh_t, kWh_f, kWh'_nx, fD1_e, kD1_o, kD1'_o, eq_self, Int.reduceLT, Int.reduceLE, Int.reduceEq, Int.reduceNeg, Bool.false_eq_true, if_false, Option.map_some, Option.map_none, List.map_cons, List.map_nil, List.length_cons, List.length_nil, List.cons_append, List.nil_append, Nat.reduceAdd, Nat.reduceSub, List.replicate_succ, List.replicate_zero, List.append_nil, List.getElem?_cons_zero, List.getElem?_cons_succ, List.set_cons_zero, List.set_cons_succ, if_true, reduceIte, decide_true, decide_false, Bool.not_true, Bool.not_false, eE, isT_enc, isT_str, i1, i2, Nat.zero_add, g0, g1, g2, gTuple_l] <;> rfl
  | .mod o l x, n + 1, nm, c, h, hb, hn, hf => by
    have e1 : (Fm.mod o l x).ht = x.ht + 1 := rfl
    rw [e1] at h hb
    have i1 := tidy_from_eq x n nm c (by omega) (by omega) hn hf
    have g0 : 0 ≤ 10000000 := by omega
    have g1 : 1 ≤ 10000000 := by omega
    have g2 : 2 ≤ 10000000 := by omega
    have eE : Fm.enc (.mod o l x) = .tup [.str (sMod o), .int l, x.enc] := rfl
    rw [p__law_tidy_from]
    simp only [b__law_tidy_from, fSeq_e, kSeq_nx, kSeq_rt, kSeq_bk, kSeq_ct, kSeq_exc, fIfS_e, kIfS_t, kIfS_f, fNx_e, fBk_e, fCt_e, fRetN_e, fRet_e, kRet_o, fExpr_e, kExpr_o, kExpr_x, fSet_e, kSet_o, fC_e, fV_e, kV_val, kV_lst, kV_dct, kV_ins, fM_e, kM_o, fZ_e, kZ_o, kG_o, ov_e, fO2_e, kO2_o, kO2'_o, fO1_e, kO1_o, fIsi_e, fB_e, kB_o, fNot_e, kNot_o, fAnd_e, kAnd_t, kAnd_f, fOr_e, kOr_t, kOr_f, fAndV_e, kAndV_t, kAndV_f, fOrV_e, kOrV_t, kOrV_f, fNotV_e, kNotV_o, fIf_e, kIf_t, kIf_f, fA0_e, fA1_e, kA1_o, kA1'_o, vls_nil, vls_cons, kVls_o, fTup_e, kTup_o, kTup'_o, fLst_e, kLst_o, fCB_e, kCB_o, kCB'_o, frE_nil, frE_c, fPk_e, kPk_int, kPk_bl, kPk_str, kPk_non, fz_val, fz_lst, fz_dct, fz_ins, fzs_nil, fzs_cons, fCall_e, kCall_o, kCall'_o, kCall'_x, kPut_o, putB_nil, putB_cons, kB1_s, kB1_n, kB2_n, outs_nil, outs_cons, kOuts_o, kCons_o, kOut_o, fn_e, kFn_nx, kFn_rt, kFn_x, fFor_e, kFor_o, kFor_x, loop_nil, loop_cons, kLoop_o, kLoop_nx, kLoop_ct, kLoop_bk, kLoop_rt, fIt_e, kIt_l, kIt_t, fR1_e, kR1_o, fR2_e, kR2_o, fR3_e, kR3_o, fGn_e, fGt_e, fGs1_e, kGs_o, fGs0_e, fAsg_e, kAsg_o, kAsg'_o, isL_e, kL_l, fApp_e, kApp_o, kApp'_o, fExt_e, kExt_o, kExt'_o, fPop_e, kPop_l, kPop'_o, fRev_e, kRev_l, fP0_e, fP1_e, kP1_i, fSl_e, kSl_o, kSl1_o, kSl2_o, fSetL_e, kSL_o, kSL1_o, fLc_e, kLc_o, kLc'_o, wipe_nil, wipe_cons, lcl_nil, lcl_cons, kLc1_o, kLc2_t, kLc2_f, kLc3_o, fYes_e, fD0_e, fDput_e, kDp_o, kDp1_o, kO_int, kDp2_o, isD_e, kD_d, fForD_e, noXF_e, kFD_d, noX_o, fSf_e, kSf_1, isI_e, kI_0, fMeth_e, kMe_o, kMe1_o, kMe2_o, fRaise_e, kRet_x, kSet_x, kIfS_x, kLoop_x, kCall_x, kB_x, kNot_x, kO2_x, fTry_e, kTry_x, kTry1_t, kTry1_f, kTry_o, deadE_nil, deadE_v, deadE_n, deadE_l, deadE_d, deadE_i, fzKs_nil, fT0_e, fz_dtt, kV_dtt, fPkT_e, kPkT_o, fDictO_e, kDictO_d, isTT_e, kTT_d, fTput_e, kTp_o, kTp1_o, kTp2_o, sV_bl, sV_int, kT_2, kT_3, fSfSet_e, kSfS_o, kSfS'_o, kWh_t, kWh_f, kWh'_nx, fD1_e, kD1_o, kD1'_o, eq_self, Int.reduceLT, Int.reduceLE, Int.reduceEq, Int.reduceNeg, Bool.false_eq_true, if_false, Option.map_some, Option.map_none, List.map_cons, List.map_nil, List.length_cons, List.length_nil, List.cons_append, List.nil_append, Nat.reduceAdd, Nat.reduceSub, List.replicate_succ, List.replicate_zero, List.append_nil, List.getElem?_cons_zero, List.getElem?_cons_succ, List.set_cons_zero, List.set_cons_succ, if_true, reduceIte, decide_true, decide_false, Bool.not_true, Bool.not_false, gIx_0, t_var, t_LM, Fm.isVar, Fm.isFix, Fm.rn]
    simp only [fSeq_e, kSeq_nx, kSeq_rt, kSeq_bk, kSeq_ct, kSeq_exc, fIfS_e, kIfS_t, kIfS_f, fNx_e, fBk_e, fCt_e, fRetN_e, fRet_e, kRet_o, fExpr_e, kExpr_o, kExpr_x, fSet_e, kSet_o, fC_e, fV_e, kV_val, kV_lst, kV_dct, kV_ins, fM_e, kM_o, fZ_e, kZ_o, kG_o, ov_e, fO2_e, kO2_o, kO2'_o, fO1_e, kO1_o, fIsi_e, fB_e, kB_o, fNot_e, kNot_o, fAnd_e, kAnd_t, kAnd_f, fOr_e, kOr_t, kOr_f, fAndV_e, kAndV_t, kAndV_f, fOrV_e, kOrV_t, kOrV_f, fNotV_e, kNotV_o, fIf_e, kIf_t, kIf_f, fA0_e, fA1_e, kA1_o, kA1'_o, vls_nil, vls_cons, kVls_o, fTup_e, kTup_o, kTup'_o, fLst_e, kLst_o, fCB_e, kCB_o, kCB'_o, frE_nil, frE_c, fPk_e, kPk_int, kPk_bl, kPk_str, kPk_non, fz_val, fz_lst, fz_dct, fz_ins, fzs_nil, fzs_cons, fCall_e, kCall_o, kCall'_o, kCall'_x, kPut_o, putB_nil, putB_cons, kB1_s, kB1_n, kB2_n, outs_nil, outs_cons, kOuts_o, kCons_o, kOut_o, fn_e, kFn_nx, kFn_rt, kFn_x, fFor_e, kFor_o, kFor_x, loop_nil, loop_cons, kLoop_o, kLoop_nx, kLoop_ct, kLoop_bk, kLoop_rt, fIt_e, kIt_l, kIt_t, fR1_e, kR1_o, fR2_e, kR2_o, fR3_e, kR3_o, fGn_e, fGt_e, fGs1_e, kGs_o, fGs0_e, fAsg_e, kAsg_o, kAsg'_o, isL_e, kL_l, fApp_e, kApp_o, kApp'_o, fExt_e, kExt_o, kExt'_o, fPop_e, kPop_l, kPop'_o, fRev_e, kRev_l, fP0_e, fP1_e, kP1_i, fSl_e, kSl_o, kSl1_o, kSl2_o, fSetL_e, kSL_o, kSL1_o, fLc_e, kLc_o, kLc'_o, wipe_nil, wipe_cons, lcl_nil, lcl_cons, kLc1_o, kLc2_t, kLc2_f, kLc3_o, fYes_e, fD0_e, fDput_e, kDp_o, kDp1_o, kO_int, kDp2_o, isD_e, kD_d, fForD_e, noXF_e, kFD_d, noX_o, fSf_e, kSf_1, isI_e, kI_0, fMeth_e, kMe_o, kMe1_o, kMe2_o, fRaise_e, kRet_x, kSet_x, kIfS_x, kLoop_x, kCall_x, kB_x, kNot_x, kO2_x, fTry_e, kTry_x, kTry1_t, kTry1_f, kTry_o, deadE_nil, deadE_v, deadE_n, deadE_l, deadE_d, deadE_i, fzKs_nil, fT0_e, fz_dtt, kV_dtt, fPkT_e, kPkT_o, fDictO_e, kDictO_d, isTT_e, kTT_d, fTput_e, kTp_o, kTp1_o, kTp2_o, sV_bl, sV_int, kT_2, kT_3, fSfSet_e, kSfS_o, kSfS'_o, kWh_t, kWh_f, kWh'_nx, fD1_e, kD1_o, kD1'_o, eq_self, Int.reduceLT, Int.reduceLE, Int.reduceEq, Int.reduceNeg, Bool.false_eq_true, if_false, Option.map_some, Option.map_none, List.map_cons, List.map_nil, List.length_cons, List.length_nil, List.cons_append, List.nil_append, Nat.reduceAdd, Nat.reduceSub, List.replicate_succ, List.replicate_zero, List.append_nil, List.getElem?_cons_zero, List.getElem?_cons_succ, List.set_cons_zero, List.set_cons_succ, if_true, reduceIte, decide_true, decide_false, Bool.not_true, Bool.not_false, eE, isT_enc, isT_str, isT_int, i1, Nat.zero_add, g0, g1, g2, gTuple_l] <;> rfl
  | .fix o v x, n + 1, nm, c, h, hb, hn, hf => by
    have e1 : (Fm.fix o v x).ht = x.ht + 1 := rfl
    rw [e1] at h hb
    have hk : Fm.keys (Fm.put nm v c) = Fm.ins (Fm.keys nm) v := Fm.keys_put
    have hl : (Fm.put nm v c).length ≤ nm.length + 1 := by
      have e2 : (Fm.put nm v c).length = (Fm.keys (Fm.put nm v c)).length := by unfold Fm.keys; rw [List.length_map]
      rw [e2, hk]
      unfold Fm.ins Fm.keys
      split
      · rw [List.length_map]; omega
      · rw [List.length_append, List.length_map]; simp
    have i1 := tidy_from_eq x n (Fm.put nm v c) (c + 1) (by omega) (by omega) (by rw [hk]; exact Fm.nodup_ins hn) (by
      rw [hk]
      exact Fm.fin_mono (fun u hu => by
        rcases List.mem_append.mp hu with z | z
        · exact Fm.mem_ins.mpr (.inl z)
        · exact Fm.mem_ins.mpr (.inr (by simpa using z))) hf)
    obtain ⟨g4', a1⟩ := copy_loop (g1 := some (.val (Fm.enc (.fix o v x)))) (g2 := some (.val (.int c))) (g5 := none) (g6 := none) (g7 := none) (g8 := none) (nm := nm) nm [] none rfl hn (by omega)
    have a1' : fLoop (fGn 4) (noXF (fDput 3 (fV 4) (fO2 gDget (fV 1) (fV 4)))) ((dN nm).map (·.1)) [some (.val (Fm.enc (.fix o v x))), some (.val (.dct (dN nm))), some (.val (.int c)), some (.dct []), none, none, none, none, none] = _ := a1
    have g1 : (dNo nm).length < 10000000 := by
      unfold dNo
      rw [List.length_map]
      omega
    rw [p__law_tidy_from]
    simp only [b__law_tidy_from, fSeq_e, kSeq_nx, kSeq_rt, kSeq_bk, kSeq_ct, kSeq_exc, fIfS_e, kIfS_t, kIfS_f, fNx_e, fBk_e, fCt_e, fRetN_e, fRet_e, kRet_o, fExpr_e, kExpr_o, kExpr_x, fSet_e, kSet_o, fC_e, fV_e, kV_val, kV_lst, kV_dct, kV_ins, fM_e, kM_o, fZ_e, kZ_o, kG_o, ov_e, fO2_e, kO2_o, kO2'_o, fO1_e, kO1_o, fIsi_e, fB_e, kB_o, fNot_e, kNot_o, fAnd_e, kAnd_t, kAnd_f, fOr_e, kOr_t, kOr_f, fAndV_e, kAndV_t, kAndV_f, fOrV_e, kOrV_t, kOrV_f, fNotV_e, kNotV_o, fIf_e, kIf_t, kIf_f, fA0_e, fA1_e, kA1_o, kA1'_o, vls_nil, vls_cons, kVls_o, fTup_e, kTup_o, kTup'_o, fLst_e, kLst_o, fCB_e, kCB_o, kCB'_o, frE_nil, frE_c, fPk_e, kPk_int, kPk_bl, kPk_str, kPk_non, fz_val, fz_lst, fz_dct, fz_ins, fzs_nil, fzs_cons, fCall_e, kCall_o, kCall'_o, kCall'_x, kPut_o, putB_nil, putB_cons, kB1_s, kB1_n, kB2_n, outs_nil, outs_cons, kOuts_o, kCons_o, kOut_o, fn_e, kFn_nx, kFn_rt, kFn_x, fFor_e, kFor_o, kFor_x, loop_nil, loop_cons, kLoop_o, kLoop_nx, kLoop_ct, kLoop_bk, kLoop_rt, fIt_e, kIt_l, kIt_t, fR1_e, kR1_o, fR2_e, kR2_o, fR3_e, kR3_o, fGn_e, fGt_e, fGs1_e, kGs_o, fGs0_e, fAsg_e, kAsg_o, kAsg'_o, isL_e, kL_l, fApp_e, kApp_o, kApp'_o, fExt_e, kExt_o, kExt'_o, fPop_e, kPop_l, kPop'_o, fRev_e, kRev_l, fP0_e, fP1_e, kP1_i, fSl_e, kSl_o, kSl1_o, kSl2_o, fSetL_e, kSL_o, kSL1_o, fLc_e, kLc_o, kLc'_o, wipe_nil, wipe_cons, lcl_nil, lcl_cons, kLc1_o, kLc2_t, kLc2_f, kLc3_o, fYes_e, fD0_e, fDput_e, kDp_o, kDp1_o, kO_int, kDp2_o, isD_e, kD_d, fForD_e, noXF_e, kFD_d, noX_o, fSf_e, kSf_1, isI_e, kI_0, fMeth_e, kMe_o, kMe1_o, kMe2_o, fRaise_e, kRet_x, kSet_x, kIfS_x, kLoop_x, kCall_x, kB_x, kNot_x, kO2_x, fTry_e, kTry_x, kTry1_t, kTry1_f, kTry_o, deadE_nil, deadE_v, deadE_n, deadE_l, deadE_d, deadE_i, fzKs_nil, fT0_e, fz_dtt, kV_dtt, fPkT_e, kPkT_o, fDictO_e, kDictO_d, isTT_e, kTT_d, fTput_e, kTp_o, kTp1_o, kTp2_o, sV_bl, sV_int, kT_2, kT_3, fSfSet_e, kSfS_o, kSfS'_o, kWh_t, kWh_f, kWh'_nx, fD1_e, kD1_o, kD1'_o, eq_self, Int.reduceLT, Int.reduceLE, Int.reduceEq, Int.reduceNeg, Bool.false_eq_true, if_false, Option.map_some, Option.map_none, List.map_cons, List.map_nil, List.length_cons, List.length_nil, List.cons_append, List.nil_append, Nat.reduceAdd, Nat.reduceSub, List.replicate_succ, List.replicate_zero, List.append_nil, List.getElem?_cons_zero, List.getElem?_cons_succ, List.set_cons_zero, List.set_cons_succ, if_true, reduceIte, decide_true, decide_false, Bool.not_true, Bool.not_false, gIx_0, t_var, t_LM, Fm.isVar, Fm.isFix, a1']
    simp only [fSeq_e, kSeq_nx, kSeq_rt, kSeq_bk, kSeq_ct, kSeq_exc, fIfS_e, kIfS_t, kIfS_f, fNx_e, fBk_e, fCt_e, fRetN_e, fRet_e, kRet_o, fExpr_e, kExpr_o, kExpr_x, fSet_e, kSet_o, fC_e, fV_e, kV_val, kV_lst, kV_dct, kV_ins, fM_e, kM_o, fZ_e, kZ_o, kG_o, ov_e, fO2_e, kO2_o, kO2'_o, fO1_e, kO1_o, fIsi_e, fB_e, kB_o, fNot_e, kNot_o, fAnd_e, kAnd_t, kAnd_f, fOr_e, kOr_t, kOr_f, fAndV_e, kAndV_t, kAndV_f, fOrV_e, kOrV_t, kOrV_f, fNotV_e, kNotV_o, fIf_e, kIf_t, kIf_f, fA0_e, fA1_e, kA1_o, kA1'_o, vls_nil, vls_cons, kVls_o, fTup_e, kTup_o, kTup'_o, fLst_e, kLst_o, fCB_e, kCB_o, kCB'_o, frE_nil, frE_c, fPk_e, kPk_int, kPk_bl, kPk_str, kPk_non, fz_val, fz_lst, fz_dct, fz_ins, fzs_nil, fzs_cons, fCall_e, kCall_o, kCall'_o, kCall'_x, kPut_o, putB_nil, putB_cons, kB1_s, kB1_n, kB2_n, outs_nil, outs_cons, kOuts_o, kCons_o, kOut_o, fn_e, kFn_nx, kFn_rt, kFn_x, fFor_e, kFor_o, kFor_x, loop_nil, loop_cons, kLoop_o, kLoop_nx, kLoop_ct, kLoop_bk, kLoop_rt, fIt_e, kIt_l, kIt_t, fR1_e, kR1_o, fR2_e, kR2_o, fR3_e, kR3_o, fGn_e, fGt_e, fGs1_e, kGs_o, fGs0_e, fAsg_e, kAsg_o, kAsg'_o, isL_e, kL_l, fApp_e, kApp_o, kApp'_o, fExt_e, kExt_o, kExt'_o, fPop_e, kPop_l, kPop'_o, fRev_e, kRev_l, fP0_e, fP1_e, kP1_i, fSl_e, kSl_o, kSl1_o, kSl2_o, fSetL_e, kSL_o, kSL1_o, fLc_e, kLc_o, kLc'_o, wipe_nil, wipe_cons, lcl_nil, lcl_cons, kLc1_o, kLc2_t, kLc2_f, kLc3_o, fYes_e, fD0_e, fDput_e, kDp_o, kDp1_o, kO_int, kDp2_o, isD_e, kD_d, fForD_e, noXF_e, kFD_d, noX_o, fSf_e, kSf_1, isI_e, kI_0, fMeth_e, kMe_o, kMe1_o, kMe2_o, fRaise_e, kRet_x, kSet_x, kIfS_x, kLoop_x, kCall_x, kB_x, kNot_x, kO2_x, fTry_e, kTry_x, kTry1_t, kTry1_f, kTry_o, deadE_nil, deadE_v, deadE_n, deadE_l, deadE_d, deadE_i, fzKs_nil, fT0_e, fz_dtt, kV_dtt, fPkT_e, kPkT_o, fDictO_e, kDictO_d, isTT_e, kTT_d, fTput_e, kTp_o, kTp1_o, kTp2_o, sV_bl, sV_int, kT_2, kT_3, fSfSet_e, kSfS_o, kSfS'_o, kWh_t, kWh_f, kWh'_nx, fD1_e, kD1_o, kD1'_o, eq_self, Int.reduceLT, Int.reduceLE, Int.reduceEq, Int.reduceNeg, Bool.false_eq_true, if_false, Option.map_some, Option.map_none, List.map_cons, List.map_nil, List.length_cons, List.length_nil, List.cons_append, List.nil_append, Nat.reduceAdd, Nat.reduceSub, List.replicate_succ, List.replicate_zero, List.append_nil, List.getElem?_cons_zero, List.getElem?_cons_succ, List.set_cons_zero, List.set_cons_succ, if_true, reduceIte, decide_true, decide_false, Bool.not_true, Bool.not_false, gIx_0, gIx_f1, gIx_f2, putO_N, fz_N, g1, gAdd_i, i1, Fm.rn] <;> rfl
theorem law_tidy_eq (s : Fm) (n : Nat) (h : s.ht + 2 ≤ n) (hh : s.ht ≤ 900) (hc : Fm.fin [] s) : prog n i__law_tidy [.val s.enc] = .ok (.val (Fm.rn [] 0 s).1.enc, []) := by
  obtain ⟨m, rfl⟩ : ∃ m, n = m + 1 := ⟨n - 1, by omega⟩
  have i1 := tidy_from_eq s m [] 0 (by omega) (by rw [List.length_nil]; omega) List.nodup_nil hc
  have i1' : prog m i__law_tidy_from [.val s.enc, .val (.dct []), .val (.int 0)] = _ := i1
  rw [p__law_tidy]
  simp only [b__law_tidy, fSeq_e, kSeq_nx, kSeq_rt, kSeq_bk, kSeq_ct, kSeq_exc, fIfS_e, kIfS_t, kIfS_f, fNx_e, fBk_e, fCt_e, fRetN_e, fRet_e, kRet_o, fExpr_e, kExpr_o, kExpr_x, fSet_e, kSet_o, fC_e, fV_e, kV_val, kV_lst, kV_dct, kV_ins, fM_e, kM_o, fZ_e, kZ_o, kG_o, ov_e, fO2_e, kO2_o, kO2'_o, fO1_e, kO1_o, fIsi_e, fB_e, kB_o, fNot_e, kNot_o, fAnd_e, kAnd_t, kAnd_f, fOr_e, kOr_t, kOr_f, fAndV_e, kAndV_t, kAndV_f, fOrV_e, kOrV_t, kOrV_f, fNotV_e, kNotV_o, fIf_e, kIf_t, kIf_f, fA0_e, fA1_e, kA1_o, kA1'_o, vls_nil, vls_cons, kVls_o, fTup_e, kTup_o, kTup'_o, fLst_e, kLst_o, fCB_e, kCB_o, kCB'_o, frE_nil, frE_c, fPk_e, kPk_int, kPk_bl, kPk_str, kPk_non, fz_val, fz_lst, fz_dct, fz_ins, fzs_nil, fzs_cons, fCall_e, kCall_o, kCall'_o, kCall'_x, kPut_o, putB_nil, putB_cons, kB1_s, kB1_n, kB2_n, outs_nil, outs_cons, kOuts_o, kCons_o, kOut_o, fn_e, kFn_nx, kFn_rt, kFn_x, fFor_e, kFor_o, kFor_x, loop_nil, loop_cons, kLoop_o, kLoop_nx, kLoop_ct, kLoop_bk, kLoop_rt, fIt_e, kIt_l, kIt_t, fR1_e, kR1_o, fR2_e, kR2_o, fR3_e, kR3_o, fGn_e, fGt_e, fGs1_e, kGs_o, fGs0_e, fAsg_e, kAsg_o, kAsg'_o, isL_e, kL_l, fApp_e, kApp_o, kApp'_o, fExt_e, kExt_o, kExt'_o, fPop_e, kPop_l, kPop'_o, fRev_e, kRev_l, fP0_e, fP1_e, kP1_i, fSl_e, kSl_o, kSl1_o, kSl2_o, fSetL_e, kSL_o, kSL1_o, fLc_e, kLc_o, kLc'_o, wipe_nil, wipe_cons, lcl_nil, lcl_cons, kLc1_o, kLc2_t, kLc2_f, kLc3_o, fYes_e, fD0_e, fDput_e, kDp_o, kDp1_o, kO_int, kDp2_o, isD_e, kD_d, fForD_e, noXF_e, kFD_d, noX_o, fSf_e, kSf_1, isI_e, kI_0, fMeth_e, kMe_o, kMe1_o, kMe2_o, fRaise_e, kRet_x, kSet_x, kIfS_x, kLoop_x, kCall_x, kB_x, kNot_x, kO2_x, fTry_e, kTry_x, kTry1_t, kTry1_f, kTry_o, deadE_nil, deadE_v, deadE_n, deadE_l, deadE_d, deadE_i, fzKs_nil, fT0_e, fz_dtt, kV_dtt, fPkT_e, kPkT_o, fDictO_e, kDictO_d, isTT_e, kTT_d, fTput_e, kTp_o, kTp1_o, kTp2_o, sV_bl, sV_int, kT_2, kT_3, fSfSet_e, kSfS_o, kSfS'_o, kWh_t, kWh_f, kWh'_nx, fD1_e, kD1_o, kD1'_o, eq_self, Int.reduceLT, Int.reduceLE, Int.reduceEq, Int.reduceNeg, Bool.false_eq_true, if_false, Option.map_some, Option.map_none, List.map_cons, List.map_nil, List.length_cons, List.length_nil, List.cons_append, List.nil_append, Nat.reduceAdd, Nat.reduceSub, List.replicate_succ, List.replicate_zero, List.append_nil, List.getElem?_cons_zero, List.getElem?_cons_succ, List.set_cons_zero, List.set_cons_succ, if_true, reduceIte, decide_true, decide_false, Bool.not_true, Bool.not_false, i1', gIx_t0]
end L01

namespace Ev.Fm
theorem get_map {l : List (Int × Int)} {u v c : Int} (hn : u ≠ v) : get (l.map fun kv => if kv.1 = v then (kv.1, c) else kv) u = get l u := by
  induction l with
  | nil => rfl
  | cons a l ih =>
    obtain ⟨k, d⟩ := a
    rw [List.map_cons]
    by_cases q : k = v
    · show get ((if k = v then (k, c) else (k, d)) :: _) u = _
      rw [if_pos q]
      unfold get
      rw [if_neg (fun e => hn (e.symm.trans q)), if_neg (fun e => hn (e.symm.trans q)), ih]
    · show get ((if k = v then (k, c) else (k, d)) :: _) u = _
      rw [if_neg q]
      unfold get
      rw [ih]
theorem get_app {l : List (Int × Int)} {u v c : Int} (hn : u ≠ v) : get (l ++ [(v, c)]) u = get l u := by
  induction l with
  | nil =>
    show (if v = u then c else 0) = 0
    rw [if_neg (fun e => hn e.symm)]
  | cons a l ih =>
    obtain ⟨k, d⟩ := a
    show (if k = u then d else get (l ++ [(v, c)]) u) = (if k = u then d else get l u)
    rw [ih]
theorem get_put_ne {l : List (Int × Int)} {u v c : Int} (hn : u ≠ v) : get (put l v c) u = get l u := by
  unfold put
  split
  · exact get_map hn
  · exact get_app hn
theorem get_put_eq {l : List (Int × Int)} {v c : Int} : get (put l v c) v = c := by
  unfold put
  split
  · rename_i h
    induction l with
    | nil => cases h
    | cons a l ih =>
      obtain ⟨k, d⟩ := a
      rw [List.map_cons]
      by_cases q : k = v
      · show get ((if k = v then (k, c) else (k, d)) :: _) v = _
        rw [if_pos q]
        unfold get
        rw [if_pos q]
      · show get ((if k = v then (k, c) else (k, d)) :: _) v = _
        rw [if_neg q]
        unfold get
        rw [if_neg q]
        refine ih ?_
        rw [List.any_cons, Bool.or_eq_true] at h
        exact h.elim (fun z => absurd (of_decide_eq_true z) q) id
  · rename_i h
    induction l with
    | nil =>
      show (if v = v then c else 0) = c
      rw [if_pos rfl]
    | cons a l ih =>
      obtain ⟨k, d⟩ := a
      have q : k ≠ v := fun e => h (by rw [List.any_cons, Bool.or_eq_true]; exact .inl (decide_eq_true e))
      show (if k = v then d else get (l ++ [(v, c)]) v) = c
      rw [if_neg q]
      exact ih fun z => h (by rw [List.any_cons, Bool.or_eq_true]; exact .inr z)
theorem put_ok {nm nm' : List (Int × Int)} {b : List Int} {v c : Int} (h : ∀ u ∈ b, get nm' (get nm u) = get nm u) : ∀ u ∈ b ++ [v], get (put nm' c c) (get (put nm v c) u) = get (put nm v c) u := fun u hu => by
  by_cases q : u = v
  · subst q
    rw [get_put_eq, get_put_eq]
  · rw [get_put_ne q]
    have hb : u ∈ b := (List.mem_append.mp hu).elim id fun z => absurd (List.mem_singleton.mp z) q
    by_cases r : get nm u = c
    · rw [r, get_put_eq]
    · rw [get_put_ne r, h u hb]
/-- tidied again it stays -/
theorem rn_rn : ∀ {s : Fm} {b : List Int} {nm nm' : List (Int × Int)} {c : Int}, fin b s → (∀ u ∈ b, get nm' (get nm u) = get nm u) → rn nm' c (rn nm c s).1 = rn nm c s
  | .leaf _, b, nm, nm', c, _, _ => rfl
  | .var v, b, nm, nm', c, hf, h => by
    show ((.var (get nm' (get nm v)) : Fm), c) = (.var (get nm v), c)
    rw [h v hf]
  | .bin o x y, b, nm, nm', c, hf, h => by
    have h1 := rn_rn (c := c) hf.1 h
    have h2 := rn_rn (c := (rn nm c x).2) hf.2 h
    show ((.bin o (rn nm' c (rn nm c x).1).1 (rn nm' (rn nm' c (rn nm c x).1).2 (rn nm (rn nm c x).2 y).1).1 : Fm), _) = _
    show ((.bin o (rn nm' c (rn nm c x).1).1 (rn nm' (rn nm' c (rn nm c x).1).2 (rn nm (rn nm c x).2 y).1).1 : Fm), (rn nm' (rn nm' c (rn nm c x).1).2 (rn nm (rn nm c x).2 y).1).2) = _
    rw [h1, h2]
    rfl
  | .mod o l x, b, nm, nm', c, hf, h => by
    have h1 := rn_rn (c := c) (s := x) hf h
    show ((.mod o l (rn nm' c (rn nm c x).1).1 : Fm), (rn nm' c (rn nm c x).1).2) = _
    rw [h1]
    rfl
  | .fix o v x, b, nm, nm', c, hf, h => by
    have h1 := rn_rn (c := c + 1) (s := x) (nm := put nm v c) (nm' := put nm' c c) hf (put_ok h)
    show ((.fix o c (rn (put nm' c c) (c + 1) (rn (put nm v c) (c + 1) x).1).1 : Fm), (rn (put nm' c c) (c + 1) (rn (put nm v c) (c + 1) x).1).2) = _
    rw [h1]
    rfl
theorem fin_rn : ∀ {s : Fm} {b b' : List Int} {nm : List (Int × Int)} {c : Int}, fin b s → (∀ u ∈ b, get nm u ∈ b') → fin b' (rn nm c s).1
  | .leaf _, b, b', nm, c, _, _ => trivial
  | .var v, b, b', nm, c, hf, h => h v hf
  | .bin o x y, b, b', nm, c, hf, h => ⟨fin_rn hf.1 h, fin_rn hf.2 h⟩
  | .mod o l x, b, b', nm, c, hf, h => fin_rn (s := x) hf h
  | .fix o v x, b, b', nm, c, hf, h => fin_rn (s := x) (b := b ++ [v]) hf fun u hu => by
    by_cases q : u = v
    · subst q
      rw [get_put_eq]
      exact List.mem_append_right _ List.mem_cons_self
    · rw [get_put_ne q]
      exact List.mem_append_left _ (h u ((List.mem_append.mp hu).elim id fun z => absurd (List.mem_singleton.mp z) q))
theorem ins_nodup {ks : List Int} {v : Int} (h : ks.Nodup) : (ins ks v).Nodup := by
  unfold ins
  split
  · exact h
  · rename_i n
    rw [List.nodup_append]
    refine ⟨h, by simp, fun a ha b hb e => ?_⟩
    have : b = v := by simpa using hb
    subst this
    exact n (e ▸ ha)
theorem af_nodup : ∀ {s : Fm} {b ks : List Int}, ks.Nodup → (af b ks s).Nodup
  | .leaf _, b, ks, h => h
  | .var v, b, ks, h => by
    unfold af
    split
    · exact h
    · exact ins_nodup h
  | .bin _ x y, b, ks, h => af_nodup (s := y) (af_nodup (s := x) h)
  | .mod _ _ x, b, ks, h => af_nodup (s := x) h
  | .fix _ v x, b, ks, h => af_nodup (s := x) h
/-- the free variables, in order, each once -/
theorem usrt_fr (s : Fm) : usrt (fr [] s) = srt (af [] [] s) := by
  refine strict_one (usrt_pw _) ?_ fun a => ?_
  · have n : (srt (af [] [] s)).Nodup := (srt_perm _).nodup_iff.mpr (af_nodup List.nodup_nil)
    exact ((srt_le (af [] [] s)).and n).imp fun ⟨a, b⟩ => by omega
  · rw [mem_usrt, (srt_perm _).mem_iff, mem_af]
    simp
end Ev.Fm
namespace L01
open PySem L2 Ev
theorem check_exc (s : Fm) (n : Nat) (h : s.ht + 4 ≤ n) (hh : s.ht ≤ 900) (hv : s.nv < 64) (hc : Fm.af [] [] s ≠ []) : prog n i_check_closed [.val s.enc] = .exc ("NotClosed" : Str) [] := by
  obtain ⟨m, rfl⟩ : ∃ m, n = m + 1 := ⟨n - 1, by omega⟩
  have hl : (srt (Fm.af [] [] s)).length = (Fm.af [] [] s).length := (srt_perm _).length_eq
  have hp : 0 < (Fm.af [] [] s).length := List.length_pos_iff.mpr hc
  have e : decide ((0 : Int) < (((srt (Fm.af [] [] s)).length : Nat) : Int)) = true := decide_eq_true (by omega)
  rw [p_check_closed]
  simp only [b_check_closed, fSeq_e, kSeq_nx, kSeq_rt, kSeq_bk, kSeq_ct, kSeq_exc, fIfS_e, kIfS_t, kIfS_f, fNx_e, fBk_e, fCt_e, fRetN_e, fRet_e, kRet_o, fExpr_e, kExpr_o, kExpr_x, fSet_e, kSet_o, fC_e, fV_e, kV_val, kV_lst, kV_dct, kV_ins, fM_e, kM_o, fZ_e, kZ_o, kG_o, ov_e, fO2_e, kO2_o, kO2'_o, fO1_e, kO1_o, fIsi_e, fB_e, kB_o, fNot_e, kNot_o, fAnd_e, kAnd_t, kAnd_f, fOr_e, kOr_t, kOr_f, fAndV_e, kAndV_t, kAndV_f, fOrV_e, kOrV_t, kOrV_f, fNotV_e, kNotV_o, fIf_e, kIf_t, kIf_f, fA0_e, fA1_e, kA1_o, kA1'_o, vls_nil, vls_cons, kVls_o, fTup_e, kTup_o, kTup'_o, fLst_e, kLst_o, fCB_e, kCB_o, kCB'_o, frE_nil, frE_c, fPk_e, kPk_int, kPk_bl, kPk_str, kPk_non, fz_val, fz_lst, fz_dct, fz_ins, fzs_nil, fzs_cons, fCall_e, kCall_o, kCall'_o, kCall'_x, kPut_o, putB_nil, putB_cons, kB1_s, kB1_n, kB2_n, outs_nil, outs_cons, kOuts_o, kCons_o, kOut_o, fn_e, kFn_nx, kFn_rt, kFn_x, fFor_e, kFor_o, kFor_x, loop_nil, loop_cons, kLoop_o, kLoop_nx, kLoop_ct, kLoop_bk, kLoop_rt, fIt_e, kIt_l, kIt_t, fR1_e, kR1_o, fR2_e, kR2_o, fR3_e, kR3_o, fGn_e, fGt_e, fGs1_e, kGs_o, fGs0_e, fAsg_e, kAsg_o, kAsg'_o, isL_e, kL_l, fApp_e, kApp_o, kApp'_o, fExt_e, kExt_o, kExt'_o, fPop_e, kPop_l, kPop'_o, fRev_e, kRev_l, fP0_e, fP1_e, kP1_i, fSl_e, kSl_o, kSl1_o, kSl2_o, fSetL_e, kSL_o, kSL1_o, fLc_e, kLc_o, kLc'_o, wipe_nil, wipe_cons, lcl_nil, lcl_cons, kLc1_o, kLc2_t, kLc2_f, kLc3_o, fYes_e, fD0_e, fDput_e, kDp_o, kDp1_o, kO_int, kDp2_o, isD_e, kD_d, fForD_e, noXF_e, kFD_d, noX_o, fSf_e, kSf_1, isI_e, kI_0, fMeth_e, kMe_o, kMe1_o, kMe2_o, fRaise_e, kRet_x, kSet_x, kIfS_x, kLoop_x, kCall_x, kB_x, kNot_x, kO2_x, fTry_e, kTry_x, kTry1_t, kTry1_f, kTry_o, deadE_nil, deadE_v, deadE_n, deadE_l, deadE_d, deadE_i, fzKs_nil, fT0_e, fz_dtt, kV_dtt, fPkT_e, kPkT_o, fDictO_e, kDictO_d, isTT_e, kTT_d, fTput_e, kTp_o, kTp1_o, kTp2_o, sV_bl, sV_int, kT_2, kT_3, fSfSet_e, kSfS_o, kSfS'_o, kWh_t, kWh_f, kWh'_nx, fD1_e, kD1_o, kD1'_o, eq_self, Int.reduceLT, Int.reduceLE, Int.reduceEq, Int.reduceNeg, Bool.false_eq_true, if_false, Option.map_some, Option.map_none, List.map_cons, List.map_nil, List.length_cons, List.length_nil, List.cons_append, List.nil_append, Nat.reduceAdd, Nat.reduceSub, List.replicate_succ, List.replicate_zero, List.append_nil, List.getElem?_cons_zero, List.getElem?_cons_succ, List.set_cons_zero, List.set_cons_succ, if_true, reduceIte, decide_true, decide_false, Bool.not_true, Bool.not_false, free_eq s m (by omega) hh hv, gLen_l, List.length_map, gGt_i, e]
theorem tidy_exc (s : Fm) (n : Nat) (h : s.ht + 5 ≤ n) (hh : s.ht ≤ 900) (hv : s.nv < 64) (hc : Fm.af [] [] s ≠ []) : prog n i_tidy [.val s.enc] = .exc ("NotClosed" : Str) [] := by
  obtain ⟨m, rfl⟩ : ∃ m, n = m + 1 := ⟨n - 1, by omega⟩
  rw [p_tidy]
  simp only [b_tidy, fSeq_e, kSeq_nx, kSeq_rt, kSeq_bk, kSeq_ct, kSeq_exc, fIfS_e, kIfS_t, kIfS_f, fNx_e, fBk_e, fCt_e, fRetN_e, fRet_e, kRet_o, fExpr_e, kExpr_o, kExpr_x, fSet_e, kSet_o, fC_e, fV_e, kV_val, kV_lst, kV_dct, kV_ins, fM_e, kM_o, fZ_e, kZ_o, kG_o, ov_e, fO2_e, kO2_o, kO2'_o, fO1_e, kO1_o, fIsi_e, fB_e, kB_o, fNot_e, kNot_o, fAnd_e, kAnd_t, kAnd_f, fOr_e, kOr_t, kOr_f, fAndV_e, kAndV_t, kAndV_f, fOrV_e, kOrV_t, kOrV_f, fNotV_e, kNotV_o, fIf_e, kIf_t, kIf_f, fA0_e, fA1_e, kA1_o, kA1'_o, vls_nil, vls_cons, kVls_o, fTup_e, kTup_o, kTup'_o, fLst_e, kLst_o, fCB_e, kCB_o, kCB'_o, frE_nil, frE_c, fPk_e, kPk_int, kPk_bl, kPk_str, kPk_non, fz_val, fz_lst, fz_dct, fz_ins, fzs_nil, fzs_cons, fCall_e, kCall_o, kCall'_o, kCall'_x, kPut_o, putB_nil, putB_cons, kB1_s, kB1_n, kB2_n, outs_nil, outs_cons, kOuts_o, kCons_o, kOut_o, fn_e, kFn_nx, kFn_rt, kFn_x, fFor_e, kFor_o, kFor_x, loop_nil, loop_cons, kLoop_o, kLoop_nx, kLoop_ct, kLoop_bk, kLoop_rt, fIt_e, kIt_l, kIt_t, fR1_e, kR1_o, fR2_e, kR2_o, fR3_e, kR3_o, fGn_e, fGt_e, fGs1_e, kGs_o, fGs0_e, fAsg_e, kAsg_o, kAsg'_o, isL_e, kL_l, fApp_e, kApp_o, kApp'_o, fExt_e, kExt_o, kExt'_o, fPop_e, kPop_l, kPop'_o, fRev_e, kRev_l, fP0_e, fP1_e, kP1_i, fSl_e, kSl_o, kSl1_o, kSl2_o, fSetL_e, kSL_o, kSL1_o, fLc_e, kLc_o, kLc'_o, wipe_nil, wipe_cons, lcl_nil, lcl_cons, kLc1_o, kLc2_t, kLc2_f, kLc3_o, fYes_e, fD0_e, fDput_e, kDp_o, kDp1_o, kO_int, kDp2_o, isD_e, kD_d, fForD_e, noXF_e, kFD_d, noX_o, fSf_e, kSf_1, isI_e, kI_0, fMeth_e, kMe_o, kMe1_o, kMe2_o, fRaise_e, kRet_x, kSet_x, kIfS_x, kLoop_x, kCall_x, kB_x, kNot_x, kO2_x, fTry_e, kTry_x, kTry1_t, kTry1_f, kTry_o, deadE_nil, deadE_v, deadE_n, deadE_l, deadE_d, deadE_i, fzKs_nil, fT0_e, fz_dtt, kV_dtt, fPkT_e, kPkT_o, fDictO_e, kDictO_d, isTT_e, kTT_d, fTput_e, kTp_o, kTp1_o, kTp2_o, sV_bl, sV_int, kT_2, kT_3, fSfSet_e, kSfS_o, kSfS'_o, kWh_t, kWh_f, kWh'_nx, fD1_e, kD1_o, kD1'_o, eq_self, Int.reduceLT, Int.reduceLE, Int.reduceEq, Int.reduceNeg, Bool.false_eq_true, if_false, Option.map_some, Option.map_none, List.map_cons, List.map_nil, List.length_cons, List.length_nil, List.cons_append, List.nil_append, Nat.reduceAdd, Nat.reduceSub, List.replicate_succ, List.replicate_zero, List.append_nil, List.getElem?_cons_zero, List.getElem?_cons_succ, List.set_cons_zero, List.set_cons_succ, if_true, reduceIte, decide_true, decide_false, Bool.not_true, Bool.not_false, check_exc s m (by omega) hh hv hc]
def kTA (caught : Str → Option Bool) (i : Nat) (fs : Str → FS) (env : Ev.Env) (r : Res (Ev.Flow × Ev.Env)) : Res (Ev.Flow × Ev.Env) := match r with
  | .exc c args => (match caught c with
    | some true => (match args with
      | [] => if i < env.length then (noX (fs c ((deadE env).set i none))).bind fun y => .ok (y.1, y.2.set i none) else .stuck
      | _ => .stuck)
    | some false => .exc c args
    | none => .stuck)
  | r => r
theorem fTryAs_e {caught : Str → Option Bool} {i : Nat} {fb : FS} {fs : Str → FS} {env : Ev.Env} : fTryAs caught i fb fs env = kTA caught i fs env (fb env) := by
  unfold fTryAs kTA
  cases fb env <;> rfl
theorem kTA_o {caught : Str → Option Bool} {i : Nat} {fs : Str → FS} {env : Ev.Env} {y : Ev.Flow × Ev.Env} : kTA caught i fs env (.ok y) = .ok y := rfl
theorem kTA_x {i : Nat} {fs : Str → FS} {env : Ev.Env} (h : i < env.length) : kTA (fun c => if c = ("NotClosed" : Str) then some true else none) i fs env (.exc ("NotClosed" : Str) []) = (noX (fs "NotClosed" ((deadE env).set i none))).bind fun y => .ok (y.1, y.2.set i none) := by
  unfold kTA
  simp only [if_true, if_pos h]
theorem outcome_ok (s : Fm) (n : Nat) (h : s.ht + 6 ≤ n) (hh : s.ht ≤ 900) (hv : s.nv < 64) (hc : Fm.fin [] s) : prog n i__law_outcome [.val s.enc] = .ok (.val (Fm.rn [] 0 s).1.enc, []) := by
  obtain ⟨m, rfl⟩ : ∃ m, n = m + 1 := ⟨n - 1, by omega⟩
  rw [p__law_outcome]
  simp only [b__law_outcome, fSeq_e, kSeq_nx, kSeq_rt, kSeq_bk, kSeq_ct, kSeq_exc, fIfS_e, kIfS_t, kIfS_f, fNx_e, fBk_e, fCt_e, fRetN_e, fRet_e, kRet_o, fExpr_e, kExpr_o, kExpr_x, fSet_e, kSet_o, fC_e, fV_e, kV_val, kV_lst, kV_dct, kV_ins, fM_e, kM_o, fZ_e, kZ_o, kG_o, ov_e, fO2_e, kO2_o, kO2'_o, fO1_e, kO1_o, fIsi_e, fB_e, kB_o, fNot_e, kNot_o, fAnd_e, kAnd_t, kAnd_f, fOr_e, kOr_t, kOr_f, fAndV_e, kAndV_t, kAndV_f, fOrV_e, kOrV_t, kOrV_f, fNotV_e, kNotV_o, fIf_e, kIf_t, kIf_f, fA0_e, fA1_e, kA1_o, kA1'_o, vls_nil, vls_cons, kVls_o, fTup_e, kTup_o, kTup'_o, fLst_e, kLst_o, fCB_e, kCB_o, kCB'_o, frE_nil, frE_c, fPk_e, kPk_int, kPk_bl, kPk_str, kPk_non, fz_val, fz_lst, fz_dct, fz_ins, fzs_nil, fzs_cons, fCall_e, kCall_o, kCall'_o, kCall'_x, kPut_o, putB_nil, putB_cons, kB1_s, kB1_n, kB2_n, outs_nil, outs_cons, kOuts_o, kCons_o, kOut_o, fn_e, kFn_nx, kFn_rt, kFn_x, fFor_e, kFor_o, kFor_x, loop_nil, loop_cons, kLoop_o, kLoop_nx, kLoop_ct, kLoop_bk, kLoop_rt, fIt_e, kIt_l, kIt_t, fR1_e, kR1_o, fR2_e, kR2_o, fR3_e, kR3_o, fGn_e, fGt_e, fGs1_e, kGs_o, fGs0_e, fAsg_e, kAsg_o, kAsg'_o, isL_e, kL_l, fApp_e, kApp_o, kApp'_o, fExt_e, kExt_o, kExt'_o, fPop_e, kPop_l, kPop'_o, fRev_e, kRev_l, fP0_e, fP1_e, kP1_i, fSl_e, kSl_o, kSl1_o, kSl2_o, fSetL_e, kSL_o, kSL1_o, fLc_e, kLc_o, kLc'_o, wipe_nil, wipe_cons, lcl_nil, lcl_cons, kLc1_o, kLc2_t, kLc2_f, kLc3_o, fYes_e, fD0_e, fDput_e, kDp_o, kDp1_o, kO_int, kDp2_o, isD_e, kD_d, fForD_e, noXF_e, kFD_d, noX_o, fSf_e, kSf_1, isI_e, kI_0, fMeth_e, kMe_o, kMe1_o, kMe2_o, fRaise_e, kRet_x, kSet_x, kIfS_x, kLoop_x, kCall_x, kB_x, kNot_x, kO2_x, fTry_e, kTry_x, kTry1_t, kTry1_f, kTry_o, deadE_nil, deadE_v, deadE_n, deadE_l, deadE_d, deadE_i, fzKs_nil, fT0_e, fz_dtt, kV_dtt, fPkT_e, kPkT_o, fDictO_e, kDictO_d, isTT_e, kTT_d, fTput_e, kTp_o, kTp1_o, kTp2_o, sV_bl, sV_int, kT_2, kT_3, fSfSet_e, kSfS_o, kSfS'_o, kWh_t, kWh_f, kWh'_nx, fD1_e, kD1_o, kD1'_o, eq_self, Int.reduceLT, Int.reduceLE, Int.reduceEq, Int.reduceNeg, Bool.false_eq_true, if_false, Option.map_some, Option.map_none, List.map_cons, List.map_nil, List.length_cons, List.length_nil, List.cons_append, List.nil_append, Nat.reduceAdd, Nat.reduceSub, List.replicate_succ, List.replicate_zero, List.append_nil, List.getElem?_cons_zero, List.getElem?_cons_succ, List.set_cons_zero, List.set_cons_succ, if_true, reduceIte, decide_true, decide_false, Bool.not_true, Bool.not_false, fTryAs_e, tidy_eq s m (by omega) hh hv hc, kTA_o]
theorem outcome_x (s : Fm) (n : Nat) (h : s.ht + 6 ≤ n) (hh : s.ht ≤ 900) (hv : s.nv < 64) (hc : Fm.af [] [] s ≠ []) : prog n i__law_outcome [.val s.enc] = .ok (.val .non, []) := by
  obtain ⟨m, rfl⟩ : ∃ m, n = m + 1 := ⟨n - 1, by omega⟩
  rw [p__law_outcome]
  simp only [b__law_outcome, fSeq_e, kSeq_nx, kSeq_rt, kSeq_bk, kSeq_ct, kSeq_exc, fIfS_e, kIfS_t, kIfS_f, fNx_e, fBk_e, fCt_e, fRetN_e, fRet_e, kRet_o, fExpr_e, kExpr_o, kExpr_x, fSet_e, kSet_o, fC_e, fV_e, kV_val, kV_lst, kV_dct, kV_ins, fM_e, kM_o, fZ_e, kZ_o, kG_o, ov_e, fO2_e, kO2_o, kO2'_o, fO1_e, kO1_o, fIsi_e, fB_e, kB_o, fNot_e, kNot_o, fAnd_e, kAnd_t, kAnd_f, fOr_e, kOr_t, kOr_f, fAndV_e, kAndV_t, kAndV_f, fOrV_e, kOrV_t, kOrV_f, fNotV_e, kNotV_o, fIf_e, kIf_t, kIf_f, fA0_e, fA1_e, kA1_o, kA1'_o, vls_nil, vls_cons, kVls_o, fTup_e, kTup_o, kTup'_o, fLst_e, kLst_o, fCB_e, kCB_o, kCB'_o, frE_nil, frE_c, fPk_e, kPk_int, kPk_bl, kPk_str, kPk_non, fz_val, fz_lst, fz_dct, fz_ins, fzs_nil, fzs_cons, fCall_e, kCall_o, kCall'_o, kCall'_x, kPut_o, putB_nil, putB_cons, kB1_s, kB1_n, kB2_n, outs_nil, outs_cons, kOuts_o, kCons_o, kOut_o, fn_e, kFn_nx, kFn_rt, kFn_x, fFor_e, kFor_o, kFor_x, loop_nil, loop_cons, kLoop_o, kLoop_nx, kLoop_ct, kLoop_bk, kLoop_rt, fIt_e, kIt_l, kIt_t, fR1_e, kR1_o, fR2_e, kR2_o, fR3_e, kR3_o, fGn_e, fGt_e, fGs1_e, kGs_o, fGs0_e, fAsg_e, kAsg_o, kAsg'_o, isL_e, kL_l, fApp_e, kApp_o, kApp'_o, fExt_e, kExt_o, kExt'_o, fPop_e, kPop_l, kPop'_o, fRev_e, kRev_l, fP0_e, fP1_e, kP1_i, fSl_e, kSl_o, kSl1_o, kSl2_o, fSetL_e, kSL_o, kSL1_o, fLc_e, kLc_o, kLc'_o, wipe_nil, wipe_cons, lcl_nil, lcl_cons, kLc1_o, kLc2_t, kLc2_f, kLc3_o, fYes_e, fD0_e, fDput_e, kDp_o, kDp1_o, kO_int, kDp2_o, isD_e, kD_d, fForD_e, noXF_e, kFD_d, noX_o, fSf_e, kSf_1, isI_e, kI_0, fMeth_e, kMe_o, kMe1_o, kMe2_o, fRaise_e, kRet_x, kSet_x, kIfS_x, kLoop_x, kCall_x, kB_x, kNot_x, kO2_x, fTry_e, kTry_x, kTry1_t, kTry1_f, kTry_o, deadE_nil, deadE_v, deadE_n, deadE_l, deadE_d, deadE_i, fzKs_nil, fT0_e, fz_dtt, kV_dtt, fPkT_e, kPkT_o, fDictO_e, kDictO_d, isTT_e, kTT_d, fTput_e, kTp_o, kTp1_o, kTp2_o, sV_bl, sV_int, kT_2, kT_3, fSfSet_e, kSfS_o, kSfS'_o, kWh_t, kWh_f, kWh'_nx, fD1_e, kD1_o, kD1'_o, eq_self, Int.reduceLT, Int.reduceLE, Int.reduceEq, Int.reduceNeg, Bool.false_eq_true, if_false, Option.map_some, Option.map_none, List.map_cons, List.map_nil, List.length_cons, List.length_nil, List.cons_append, List.nil_append, Nat.reduceAdd, Nat.reduceSub, List.replicate_succ, List.replicate_zero, List.append_nil, List.getElem?_cons_zero, List.getElem?_cons_succ, List.set_cons_zero, List.set_cons_succ, if_true, reduceIte, decide_true, decide_false, Bool.not_true, Bool.not_false, fTryAs_e, tidy_exc s m (by omega) hh hv hc]
  rw [kTA_x (by show 1 < 2; omega)]
  rfl
/-! ### opened -/
def isBin : Fm → Bool
  | .bin _ _ _ => true
  | _ => false
def isUn : Fm → Bool
  | .mod _ _ _ => true
  | .fix _ _ _ => true
  | _ => false
theorem t_ao (s : Fm) : gIn false (.str s.kd) (.tup [.str z_and, .str z_or]) = .ok (.val (.bl (isBin s))) := by
  cases s with
  | leaf k => cases k <;> rfl
  | var v => rfl
  | bin o x y => cases o <;> rfl
  | mod o l x => cases o <;> rfl
  | fix o v x => cases o <;> rfl
theorem t_un (s : Fm) : gIn false (.str s.kd) (.tup [.str z_least, .str z_most, .str z_some, .str z_all]) = .ok (.val (.bl (isUn s))) := by
  cases s with
  | leaf k => cases k <;> rfl
  | var v => rfl
  | bin o x y => cases o <;> rfl
  | mod o l x => cases o <;> rfl
  | fix o v x => cases o <;> rfl
def opn (v : Int) : Fm → Fm
  | .bin o _ y => .bin o (.var v) y
  | .mod o l x => .mod o l (.bin true x (.var v))
  | .fix o w x => .fix o w (.bin true x (.var v))
  | s => s
theorem opn_ht (v : Int) (s : Fm) : (opn v s).ht ≤ s.ht + 1 := by
  cases s with
  | leaf k => show 0 ≤ _; omega
  | var v => show 0 ≤ _; omega
  | bin o x y => show max 0 y.ht + 1 ≤ max x.ht y.ht + 1 + 1; omega
  | mod o l x => show max x.ht 0 + 1 + 1 ≤ x.ht + 1 + 1; omega
  | fix o v x => show max x.ht 0 + 1 + 1 ≤ x.ht + 1 + 1; omega
theorem opn_nv (v : Int) (s : Fm) : (opn v s).nv ≤ s.nv + 1 := by
  cases s with
  | leaf k => exact Nat.le_succ _
  | var v => exact Nat.le_succ _
  | bin o x y => show 1 + y.nv ≤ x.nv + y.nv + 1; omega
  | mod o l x => exact Nat.le_refl _
  | fix o v x => exact Nat.le_refl _
def bOp (m : Nat) : FS := (fIfS (fB (fO2 (gIn false) (fO2 gIx (fV 2) (fC (.int 0))) (fTup (fA1 (fC (.str z_and)) (fA1 (fC (.str z_or)) fA0))))) (fSet 2 (fTup (fA1 (fO2 gIx (fV 2) (fC (.int 0))) (fA1 (fTup (fA1 (fC (.str z_var)) (fA1 (fCall (prog m i__law_take) [0] [some 1, none] (fA1 (fM 1) (fA1 (fC (.int 3)) fA0))) fA0))) (fA1 (fO2 gIx (fV 2) (fC (.int 2))) fA0)))))
  (fIfS (fB (fO2 (gIn false) (fO2 gIx (fV 2) (fC (.int 0))) (fTup (fA1 (fC (.str z_least)) (fA1 (fC (.str z_most)) (fA1 (fC (.str z_some)) (fA1 (fC (.str z_all)) fA0))))))) (fSet 2 (fTup (fA1 (fO2 gIx (fV 2) (fC (.int 0))) (fA1 (fO2 gIx (fV 2) (fC (.int 1))) (fA1 (fTup (fA1 (fC (.str z_or)) (fA1 (fO2 gIx (fV 2) (fC (.int 2))) (fA1 (fTup (fA1 (fC (.str z_var)) (fA1 (fCall (prog m i__law_take) [0] [some 1, none] (fA1 (fM 1) (fA1 (fC (.int 3)) fA0))) fA0))) fA0)))) fA0)))))
  fNx))
theorem open_loop (m : Nat) (e0 e4 e5 : Option OV) : ∀ (l : List PV) (s : Fm) (D : List Int) (e3 : Option OV), ∃ (s' : Fm) (D' : List Int) (e3' : Option OV), s'.ht ≤ s.ht + l.length ∧ s'.nv ≤ s.nv + l.length ∧
    fLoop (fGn 3) (bOp (m + 1)) l [e0, some (encD D), some (.val s.enc), e3, e4, e5] = .ok (.nx, [e0, some (encD D'), some (.val s'.enc), e3', e4, e5]) := by
  intro l
  induction l with
  | nil => exact fun s D e3 => ⟨s, D, e3, Nat.le_refl _, Nat.le_refl _, rfl⟩
  | cons p l ih =>
    intro s D e3
    have hk := opn_ht (takeV D 3) s
    have hj := opn_nv (takeV D 3) s
    have t3 : (0 : Int) < 3 := by decide
    cases s with
    | leaf k =>
      obtain ⟨s', D', e3', h1, hv, h2⟩ := ih (.leaf k) D (some (.val p))
      refine ⟨s', D', e3', by rw [List.length_cons]; omega, by rw [List.length_cons]; omega, ?_⟩
      rw [loop_cons]
      unfold bOp at h2 ⊢
      simp only [fSeq_e, kSeq_nx, kSeq_rt, kSeq_bk, kSeq_ct, kSeq_exc, fIfS_e, kIfS_t, kIfS_f, fNx_e, fBk_e, fCt_e, fRetN_e, fRet_e, kRet_o, fExpr_e, kExpr_o, kExpr_x, fSet_e, kSet_o, fC_e, fV_e, kV_val, kV_lst, kV_dct, kV_ins, fM_e, kM_o, fZ_e, kZ_o, kG_o, ov_e, fO2_e, kO2_o, kO2'_o, fO1_e, kO1_o, fIsi_e, fB_e, kB_o, fNot_e, kNot_o, fAnd_e, kAnd_t, kAnd_f, fOr_e, kOr_t, kOr_f, fAndV_e, kAndV_t, kAndV_f, fOrV_e, kOrV_t, kOrV_f, fNotV_e, kNotV_o, fIf_e, kIf_t, kIf_f, fA0_e, fA1_e, kA1_o, kA1'_o, vls_nil, vls_cons, kVls_o, fTup_e, kTup_o, kTup'_o, fLst_e, kLst_o, fCB_e, kCB_o, kCB'_o, frE_nil, frE_c, fPk_e, kPk_int, kPk_bl, kPk_str, kPk_non, fz_val, fz_lst, fz_dct, fz_ins, fzs_nil, fzs_cons, fCall_e, kCall_o, kCall'_o, kCall'_x, kPut_o, putB_nil, putB_cons, kB1_s, kB1_n, kB2_n, outs_nil, outs_cons, kOuts_o, kCons_o, kOut_o, fn_e, kFn_nx, kFn_rt, kFn_x, fFor_e, kFor_o, kFor_x, loop_nil, loop_cons, kLoop_o, kLoop_nx, kLoop_ct, kLoop_bk, kLoop_rt, fIt_e, kIt_l, kIt_t, fR1_e, kR1_o, fR2_e, kR2_o, fR3_e, kR3_o, fGn_e, fGt_e, fGs1_e, kGs_o, fGs0_e, fAsg_e, kAsg_o, kAsg'_o, isL_e, kL_l, fApp_e, kApp_o, kApp'_o, fExt_e, kExt_o, kExt'_o, fPop_e, kPop_l, kPop'_o, fRev_e, kRev_l, fP0_e, fP1_e, kP1_i, fSl_e, kSl_o, kSl1_o, kSl2_o, fSetL_e, kSL_o, kSL1_o, fLc_e, kLc_o, kLc'_o, wipe_nil, wipe_cons, lcl_nil, lcl_cons, kLc1_o, kLc2_t, kLc2_f, kLc3_o, fYes_e, fD0_e, fDput_e, kDp_o, kDp1_o, kO_int, kDp2_o, isD_e, kD_d, fForD_e, noXF_e, kFD_d, noX_o, fSf_e, kSf_1, isI_e, kI_0, fMeth_e, kMe_o, kMe1_o, kMe2_o, fRaise_e, kRet_x, kSet_x, kIfS_x, kLoop_x, kCall_x, kB_x, kNot_x, kO2_x, fTry_e, kTry_x, kTry1_t, kTry1_f, kTry_o, deadE_nil, deadE_v, deadE_n, deadE_l, deadE_d, deadE_i, fzKs_nil, fT0_e, fz_dtt, kV_dtt, fPkT_e, kPkT_o, fDictO_e, kDictO_d, isTT_e, kTT_d, fTput_e, kTp_o, kTp1_o, kTp2_o, sV_bl, sV_int, kT_2, kT_3, fSfSet_e, kSfS_o, kSfS'_o, kWh_t, kWh_f, kWh'_nx, fD1_e, kD1_o, kD1'_o, eq_self, Int.reduceLT, Int.reduceLE, Int.reduceEq, Int.reduceNeg, Bool.false_eq_true, if_false, Option.map_some, Option.map_none, List.map_cons, List.map_nil, List.length_cons, List.length_nil, List.cons_append, List.nil_append, Nat.reduceAdd, Nat.reduceSub, List.replicate_succ, List.replicate_zero, List.append_nil, List.getElem?_cons_zero, List.getElem?_cons_succ, List.set_cons_zero, List.set_cons_succ, if_true, reduceIte, decide_true, decide_false, Bool.not_true, Bool.not_false, gIx_0, t_ao, t_un, isBin, isUn]
      exact h2
    | var v =>
      obtain ⟨s', D', e3', h1, hv, h2⟩ := ih (.var v) D (some (.val p))
      refine ⟨s', D', e3', by rw [List.length_cons]; omega, by rw [List.length_cons]; omega, ?_⟩
      rw [loop_cons]
      unfold bOp at h2 ⊢
      simp only [fSeq_e, kSeq_nx, kSeq_rt, kSeq_bk, kSeq_ct, kSeq_exc, fIfS_e, kIfS_t, kIfS_f, fNx_e, fBk_e, fCt_e, fRetN_e, fRet_e, kRet_o, fExpr_e, kExpr_o, kExpr_x, fSet_e, kSet_o, fC_e, fV_e, kV_val, kV_lst, kV_dct, kV_ins, fM_e, kM_o, fZ_e, kZ_o, kG_o, ov_e, fO2_e, kO2_o, kO2'_o, fO1_e, kO1_o, fIsi_e, fB_e, kB_o, fNot_e, kNot_o, fAnd_e, kAnd_t, kAnd_f, fOr_e, kOr_t, kOr_f, fAndV_e, kAndV_t, kAndV_f, fOrV_e, kOrV_t, kOrV_f, fNotV_e, kNotV_o, fIf_e, kIf_t, kIf_f, fA0_e, fA1_e, kA1_o, kA1'_o, vls_nil, vls_cons, kVls_o, fTup_e, kTup_o, kTup'_o, fLst_e, kLst_o, fCB_e, kCB_o, kCB'_o, frE_nil, frE_c, fPk_e, kPk_int, kPk_bl, kPk_str, kPk_non, fz_val, fz_lst, fz_dct, fz_ins, fzs_nil, fzs_cons, fCall_e, kCall_o, kCall'_o, kCall'_x, kPut_o, putB_nil, putB_cons, kB1_s, kB1_n, kB2_n, outs_nil, outs_cons, kOuts_o, kCons_o, kOut_o, fn_e, kFn_nx, kFn_rt, kFn_x, fFor_e, kFor_o, kFor_x, loop_nil, loop_cons, kLoop_o, kLoop_nx, kLoop_ct, kLoop_bk, kLoop_rt, fIt_e, kIt_l, kIt_t, fR1_e, kR1_o, fR2_e, kR2_o, fR3_e, kR3_o, fGn_e, fGt_e, fGs1_e, kGs_o, fGs0_e, fAsg_e, kAsg_o, kAsg'_o, isL_e, kL_l, fApp_e, kApp_o, kApp'_o, fExt_e, kExt_o, kExt'_o, fPop_e, kPop_l, kPop'_o, fRev_e, kRev_l, fP0_e, fP1_e, kP1_i, fSl_e, kSl_o, kSl1_o, kSl2_o, fSetL_e, kSL_o, kSL1_o, fLc_e, kLc_o, kLc'_o, wipe_nil, wipe_cons, lcl_nil, lcl_cons, kLc1_o, kLc2_t, kLc2_f, kLc3_o, fYes_e, fD0_e, fDput_e, kDp_o, kDp1_o, kO_int, kDp2_o, isD_e, kD_d, fForD_e, noXF_e, kFD_d, noX_o, fSf_e, kSf_1, isI_e, kI_0, fMeth_e, kMe_o, kMe1_o, kMe2_o, fRaise_e, kRet_x, kSet_x, kIfS_x, kLoop_x, kCall_x, kB_x, kNot_x, kO2_x, fTry_e, kTry_x, kTry1_t, kTry1_f, kTry_o, deadE_nil, deadE_v, deadE_n, deadE_l, deadE_d, deadE_i, fzKs_nil, fT0_e, fz_dtt, kV_dtt, fPkT_e, kPkT_o, fDictO_e, kDictO_d, isTT_e, kTT_d, fTput_e, kTp_o, kTp1_o, kTp2_o, sV_bl, sV_int, kT_2, kT_3, fSfSet_e, kSfS_o, kSfS'_o, kWh_t, kWh_f, kWh'_nx, fD1_e, kD1_o, kD1'_o, eq_self, Int.reduceLT, Int.reduceLE, Int.reduceEq, Int.reduceNeg, Bool.false_eq_true, if_false, Option.map_some, Option.map_none, List.map_cons, List.map_nil, List.length_cons, List.length_nil, List.cons_append, List.nil_append, Nat.reduceAdd, Nat.reduceSub, List.replicate_succ, List.replicate_zero, List.append_nil, List.getElem?_cons_zero, List.getElem?_cons_succ, List.set_cons_zero, List.set_cons_succ, if_true, reduceIte, decide_true, decide_false, Bool.not_true, Bool.not_false, gIx_0, t_ao, t_un, isBin, isUn]
      exact h2
    | bin o x y =>
      obtain ⟨s', D', e3', h1, hv, h2⟩ := ih (.bin o (.var (takeV D 3)) y) (takeR D) (some (.val p))
      refine ⟨s', D', e3', by rw [List.length_cons]; have : (Fm.bin o (.var (takeV D 3)) y).ht ≤ (Fm.bin o x y).ht + 1 := hk; omega, by rw [List.length_cons]; have : (Fm.bin o (.var (takeV D 3)) y).nv ≤ (Fm.bin o x y).nv + 1 := hj; omega, ?_⟩
      have g2 : gIx (Fm.enc (.bin o x y)) (.int 2) = .ok (.val y.enc) := rfl
      have e : Fm.enc (.bin o (.var (takeV D 3)) y) = .tup [.str (Fm.kd (.bin o x y)), .tup [.str z_var, .int (takeV D 3)], y.enc] := rfl
      rw [e] at h2
      rw [loop_cons]
      unfold bOp at h2 ⊢
      simp only [fSeq_e, kSeq_nx, kSeq_rt, kSeq_bk, kSeq_ct, kSeq_exc, fIfS_e, kIfS_t, kIfS_f, fNx_e, fBk_e, fCt_e, fRetN_e, fRet_e, kRet_o, fExpr_e, kExpr_o, kExpr_x, fSet_e, kSet_o, fC_e, fV_e, kV_val, kV_lst, kV_dct, kV_ins, fM_e, kM_o, fZ_e, kZ_o, kG_o, ov_e, fO2_e, kO2_o, kO2'_o, fO1_e, kO1_o, fIsi_e, fB_e, kB_o, fNot_e, kNot_o, fAnd_e, kAnd_t, kAnd_f, fOr_e, kOr_t, kOr_f, fAndV_e, kAndV_t, kAndV_f, fOrV_e, kOrV_t, kOrV_f, fNotV_e, kNotV_o, fIf_e, kIf_t, kIf_f, fA0_e, fA1_e, kA1_o, kA1'_o, vls_nil, vls_cons, kVls_o, fTup_e, kTup_o, kTup'_o, fLst_e, kLst_o, fCB_e, kCB_o, kCB'_o, frE_nil, frE_c, fPk_e, kPk_int, kPk_bl, kPk_str, kPk_non, fz_val, fz_lst, fz_dct, fz_ins, fzs_nil, fzs_cons, fCall_e, kCall_o, kCall'_o, kCall'_x, kPut_o, putB_nil, putB_cons, kB1_s, kB1_n, kB2_n, outs_nil, outs_cons, kOuts_o, kCons_o, kOut_o, fn_e, kFn_nx, kFn_rt, kFn_x, fFor_e, kFor_o, kFor_x, loop_nil, loop_cons, kLoop_o, kLoop_nx, kLoop_ct, kLoop_bk, kLoop_rt, fIt_e, kIt_l, kIt_t, fR1_e, kR1_o, fR2_e, kR2_o, fR3_e, kR3_o, fGn_e, fGt_e, fGs1_e, kGs_o, fGs0_e, fAsg_e, kAsg_o, kAsg'_o, isL_e, kL_l, fApp_e, kApp_o, kApp'_o, fExt_e, kExt_o, kExt'_o, fPop_e, kPop_l, kPop'_o, fRev_e, kRev_l, fP0_e, fP1_e, kP1_i, fSl_e, kSl_o, kSl1_o, kSl2_o, fSetL_e, kSL_o, kSL1_o, fLc_e, kLc_o, kLc'_o, wipe_nil, wipe_cons, lcl_nil, lcl_cons, kLc1_o, kLc2_t, kLc2_f, kLc3_o, fYes_e, fD0_e, fDput_e, kDp_o, kDp1_o, kO_int, kDp2_o, isD_e, kD_d, fForD_e, noXF_e, kFD_d, noX_o, fSf_e, kSf_1, isI_e, kI_0, fMeth_e, kMe_o, kMe1_o, kMe2_o, fRaise_e, kRet_x, kSet_x, kIfS_x, kLoop_x, kCall_x, kB_x, kNot_x, kO2_x, fTry_e, kTry_x, kTry1_t, kTry1_f, kTry_o, deadE_nil, deadE_v, deadE_n, deadE_l, deadE_d, deadE_i, fzKs_nil, fT0_e, fz_dtt, kV_dtt, fPkT_e, kPkT_o, fDictO_e, kDictO_d, isTT_e, kTT_d, fTput_e, kTp_o, kTp1_o, kTp2_o, sV_bl, sV_int, kT_2, kT_3, fSfSet_e, kSfS_o, kSfS'_o, kWh_t, kWh_f, kWh'_nx, fD1_e, kD1_o, kD1'_o, eq_self, Int.reduceLT, Int.reduceLE, Int.reduceEq, Int.reduceNeg, Bool.false_eq_true, if_false, Option.map_some, Option.map_none, List.map_cons, List.map_nil, List.length_cons, List.length_nil, List.cons_append, List.nil_append, Nat.reduceAdd, Nat.reduceSub, List.replicate_succ, List.replicate_zero, List.append_nil, List.getElem?_cons_zero, List.getElem?_cons_succ, List.set_cons_zero, List.set_cons_succ, if_true, reduceIte, decide_true, decide_false, Bool.not_true, Bool.not_false, gIx_0, t_ao, isBin, tk t3, g2]
      exact h2
    | mod o w x =>
      obtain ⟨s', D', e3', h1, hv, h2⟩ := ih (.mod o w (.bin true x (.var (takeV D 3)))) (takeR D) (some (.val p))
      refine ⟨s', D', e3', by rw [List.length_cons]; have : (Fm.mod o w (.bin true x (.var (takeV D 3)))).ht ≤ (Fm.mod o w x).ht + 1 := hk; omega, by rw [List.length_cons]; have : (Fm.mod o w (.bin true x (.var (takeV D 3)))).nv ≤ (Fm.mod o w x).nv + 1 := hj; omega, ?_⟩
      have g1 : gIx (Fm.enc (.mod o w x)) (.int 1) = .ok (.val (.int w)) := rfl
      have g2 : gIx (Fm.enc (.mod o w x)) (.int 2) = .ok (.val x.enc) := rfl
      have e : Fm.enc (.mod o w (.bin true x (.var (takeV D 3)))) = .tup [.str (Fm.kd (.mod o w x)), .int w, .tup [.str z_or, x.enc, .tup [.str z_var, .int (takeV D 3)]]] := rfl
      rw [e] at h2
      rw [loop_cons]
      unfold bOp at h2 ⊢
      simp only [fSeq_e, kSeq_nx, kSeq_rt, kSeq_bk, kSeq_ct, kSeq_exc, fIfS_e, kIfS_t, kIfS_f, fNx_e, fBk_e, fCt_e, fRetN_e, fRet_e, kRet_o, fExpr_e, kExpr_o, kExpr_x, fSet_e, kSet_o, fC_e, fV_e, kV_val, kV_lst, kV_dct, kV_ins, fM_e, kM_o, fZ_e, kZ_o, kG_o, ov_e, fO2_e, kO2_o, kO2'_o, fO1_e, kO1_o, fIsi_e, fB_e, kB_o, fNot_e, kNot_o, fAnd_e, kAnd_t, kAnd_f, fOr_e, kOr_t, kOr_f, fAndV_e, kAndV_t, kAndV_f, fOrV_e, kOrV_t, kOrV_f, fNotV_e, kNotV_o, fIf_e, kIf_t, kIf_f, fA0_e, fA1_e, kA1_o, kA1'_o, vls_nil, vls_cons, kVls_o, fTup_e, kTup_o, kTup'_o, fLst_e, kLst_o, fCB_e, kCB_o, kCB'_o, frE_nil, frE_c, fPk_e, kPk_int, kPk_bl, kPk_str, kPk_non, fz_val, fz_lst, fz_dct, fz_ins, fzs_nil, fzs_cons, fCall_e, kCall_o, kCall'_o, kCall'_x, kPut_o, putB_nil, putB_cons, kB1_s, kB1_n, kB2_n, outs_nil, outs_cons, kOuts_o, kCons_o, kOut_o, fn_e, kFn_nx, kFn_rt, kFn_x, fFor_e, kFor_o, kFor_x, loop_nil, loop_cons, kLoop_o, kLoop_nx, kLoop_ct, kLoop_bk, kLoop_rt, fIt_e, kIt_l, kIt_t, fR1_e, kR1_o, fR2_e, kR2_o, fR3_e, kR3_o, fGn_e, fGt_e, fGs1_e, kGs_o, fGs0_e, fAsg_e, kAsg_o, kAsg'_o, isL_e, kL_l, fApp_e, kApp_o, kApp'_o, fExt_e, kExt_o, kExt'_o, fPop_e, kPop_l, kPop'_o, fRev_e, kRev_l, fP0_e, fP1_e, kP1_i, fSl_e, kSl_o, kSl1_o, kSl2_o, fSetL_e, kSL_o, kSL1_o, fLc_e, kLc_o, kLc'_o, wipe_nil, wipe_cons, lcl_nil, lcl_cons, kLc1_o, kLc2_t, kLc2_f, kLc3_o, fYes_e, fD0_e, fDput_e, kDp_o, kDp1_o, kO_int, kDp2_o, isD_e, kD_d, fForD_e, noXF_e, kFD_d, noX_o, fSf_e, kSf_1, isI_e, kI_0, fMeth_e, kMe_o, kMe1_o, kMe2_o, fRaise_e, kRet_x, kSet_x, kIfS_x, kLoop_x, kCall_x, kB_x, kNot_x, kO2_x, fTry_e, kTry_x, kTry1_t, kTry1_f, kTry_o, deadE_nil, deadE_v, deadE_n, deadE_l, deadE_d, deadE_i, fzKs_nil, fT0_e, fz_dtt, kV_dtt, fPkT_e, kPkT_o, fDictO_e, kDictO_d, isTT_e, kTT_d, fTput_e, kTp_o, kTp1_o, kTp2_o, sV_bl, sV_int, kT_2, kT_3, fSfSet_e, kSfS_o, kSfS'_o, kWh_t, kWh_f, kWh'_nx, fD1_e, kD1_o, kD1'_o, eq_self, Int.reduceLT, Int.reduceLE, Int.reduceEq, Int.reduceNeg, Bool.false_eq_true, if_false, Option.map_some, Option.map_none, List.map_cons, List.map_nil, List.length_cons, List.length_nil, List.cons_append, List.nil_append, Nat.reduceAdd, Nat.reduceSub, List.replicate_succ, List.replicate_zero, List.append_nil, List.getElem?_cons_zero, List.getElem?_cons_succ, List.set_cons_zero, List.set_cons_succ, if_true, reduceIte, decide_true, decide_false, Bool.not_true, Bool.not_false, gIx_0, t_ao, t_un, isBin, isUn, tk t3, g1, g2]
      exact h2
    | fix o w x =>
      obtain ⟨s', D', e3', h1, hv, h2⟩ := ih (.fix o w (.bin true x (.var (takeV D 3)))) (takeR D) (some (.val p))
      refine ⟨s', D', e3', by rw [List.length_cons]; have : (Fm.fix o w (.bin true x (.var (takeV D 3)))).ht ≤ (Fm.fix o w x).ht + 1 := hk; omega, by rw [List.length_cons]; have : (Fm.fix o w (.bin true x (.var (takeV D 3)))).nv ≤ (Fm.fix o w x).nv + 1 := hj; omega, ?_⟩
      have g1 : gIx (Fm.enc (.fix o w x)) (.int 1) = .ok (.val (.int w)) := rfl
      have g2 : gIx (Fm.enc (.fix o w x)) (.int 2) = .ok (.val x.enc) := rfl
      have e : Fm.enc (.fix o w (.bin true x (.var (takeV D 3)))) = .tup [.str (Fm.kd (.fix o w x)), .int w, .tup [.str z_or, x.enc, .tup [.str z_var, .int (takeV D 3)]]] := rfl
      rw [e] at h2
      rw [loop_cons]
      unfold bOp at h2 ⊢
      simp only [fSeq_e, kSeq_nx, kSeq_rt, kSeq_bk, kSeq_ct, kSeq_exc, fIfS_e, kIfS_t, kIfS_f, fNx_e, fBk_e, fCt_e, fRetN_e, fRet_e, kRet_o, fExpr_e, kExpr_o, kExpr_x, fSet_e, kSet_o, fC_e, fV_e, kV_val, kV_lst, kV_dct, kV_ins, fM_e, kM_o, fZ_e, kZ_o, kG_o, ov_e, fO2_e, kO2_o, kO2'_o, fO1_e, kO1_o, fIsi_e, fB_e, kB_o, fNot_e, kNot_o, fAnd_e, kAnd_t, kAnd_f, fOr_e, kOr_t, kOr_f, fAndV_e, kAndV_t, kAndV_f, fOrV_e, kOrV_t, kOrV_f, fNotV_e, kNotV_o, fIf_e, kIf_t, kIf_f, fA0_e, fA1_e, kA1_o, kA1'_o, vls_nil, vls_cons, kVls_o, fTup_e, kTup_o, kTup'_o, fLst_e, kLst_o, fCB_e, kCB_o, kCB'_o, frE_nil, frE_c, fPk_e, kPk_int, kPk_bl, kPk_str, kPk_non, fz_val, fz_lst, fz_dct, fz_ins, fzs_nil, fzs_cons, fCall_e, kCall_o, kCall'_o, kCall'_x, kPut_o, putB_nil, putB_cons, kB1_s, kB1_n, kB2_n, outs_nil, outs_cons, kOuts_o, kCons_o, kOut_o, fn_e, kFn_nx, kFn_rt, kFn_x, fFor_e, kFor_o, kFor_x, loop_nil, loop_cons, kLoop_o, kLoop_nx, kLoop_ct, kLoop_bk, kLoop_rt, fIt_e, kIt_l, kIt_t, fR1_e, kR1_o, fR2_e, kR2_o, fR3_e, kR3_o, fGn_e, fGt_e, fGs1_e, kGs_o, fGs0_e, fAsg_e, kAsg_o, kAsg'_o, isL_e, kL_l, fApp_e, kApp_o, kApp'_o, fExt_e, kExt_o, kExt'_o, fPop_e, kPop_l, kPop'_o, fRev_e, kRev_l, fP0_e, fP1_e, kP1_i, fSl_e, kSl_o, kSl1_o, kSl2_o, fSetL_e, kSL_o, kSL1_o, fLc_e, kLc_o, kLc'_o, wipe_nil, wipe_cons, lcl_nil, lcl_cons, kLc1_o, kLc2_t, kLc2_f, kLc3_o, fYes_e, fD0_e, fDput_e, kDp_o, kDp1_o, kO_int, kDp2_o, isD_e, kD_d, fForD_e, noXF_e, kFD_d, noX_o, fSf_e, kSf_1, isI_e, kI_0, fMeth_e, kMe_o, kMe1_o, kMe2_o, fRaise_e, kRet_x, kSet_x, kIfS_x, kLoop_x, kCall_x, kB_x, kNot_x, kO2_x, fTry_e, kTry_x, kTry1_t, kTry1_f, kTry_o, deadE_nil, deadE_v, deadE_n, deadE_l, deadE_d, deadE_i, fzKs_nil, fT0_e, fz_dtt, kV_dtt, fPkT_e, kPkT_o, fDictO_e, kDictO_d, isTT_e, kTT_d, fTput_e, kTp_o, kTp1_o, kTp2_o, sV_bl, sV_int, kT_2, kT_3, fSfSet_e, kSfS_o, kSfS'_o, kWh_t, kWh_f, kWh'_nx, fD1_e, kD1_o, kD1'_o, eq_self, Int.reduceLT, Int.reduceLE, Int.reduceEq, Int.reduceNeg, Bool.false_eq_true, if_false, Option.map_some, Option.map_none, List.map_cons, List.map_nil, List.length_cons, List.length_nil, List.cons_append, List.nil_append, Nat.reduceAdd, Nat.reduceSub, List.replicate_succ, List.replicate_zero, List.append_nil, List.getElem?_cons_zero, List.getElem?_cons_succ, List.set_cons_zero, List.set_cons_succ, if_true, reduceIte, decide_true, decide_false, Bool.not_true, Bool.not_false, gIx_0, t_ao, t_un, isBin, isUn, tk t3, g1, g2]
      exact h2
end L01

namespace L01
open PySem L2 Ev
theorem draws' (c n : Nat) (hc : c ≤ 900) (ns : List Int) : ∃ D, prog (n + 1) i__law_draws [.val (.scr ns), .val (.int (c : Int))] = .ok (encD D, []) := by
  rw [p__law_draws]
  exact draws_eq c hc ns
theorem gSrtS_i {l : List Int} (h : l.length < 64) : gSrtS [.lst (l.map PV.int)] = .ok (.lst ((usrt l).map fun n => .val (.int n))) := by
  show (match intsOf (l.map PV.int) with | some ns => _ | none => _) = _
  rw [intsOf_map]
  show (if l.length < 64 then _ else _) = _
  rw [if_pos h]
def bR : FS := (fSeq (fSet 4 (fZ (fCB gSrtS (fA1 (fCall (prog 39 i__law_free) [] [none, none] (fA1 (fV 2) (fA1 (fZ (fLst fA0)) fA0))) fA0))))
  (fSeq (fIfS (fB (fO2 gNe (fCall (prog 39 i_free_variables) [] [none] (fA1 (fV 2) fA0)) (fV 4))) (fRet (fC (.bl false)))
  fNx)
  (fSeq (fSet 5 (fCall (prog 39 i__law_outcome) [] [none] (fA1 (fV 2) fA0)))
  (fSeq (fIfS (fB (fO2 gGt (fCB gLen (fA1 (fV 4) fA0)) (fC (.int 0)))) (fRet (fO2 (gIs false) (fV 5) (fC .non)))
  fNx)
  (fRet (fAndV (fO2 gEq (fV 5) (fCall (prog 39 i__law_tidy) [] [none] (fA1 (fV 2) fA0))) (fO2 gEq (fCall (prog 39 i_tidy) [] [none] (fA1 (fV 5) fA0)) (fV 5))))))))
theorem rest_law (s : Fm) (hh : s.ht ≤ 7) (hv' : s.nv < 64) (D : List Int) (e0 e3 : Option OV) : ∃ e', bR [e0, some (encD D), some (.val s.enc), e3, none, none] = .ok (.rt (.val (.bl true)), e') := by
  have hl := (law_free_eq s 39 [] (by omega) (by rw [List.length_nil]; omega) (by omega))
  obtain ⟨i1, h1⟩ := hl
  have i1' : prog 39 i__law_free [.val s.enc, .val (.lst [])] = .ok (.val (.lst ((Fm.fr [] s).map PV.int)), []) := i1
  have g1 := gSrtS_i (l := Fm.fr [] s) (by omega)
  rw [Fm.usrt_fr] at g1
  have i2 := free_eq s 39 (by omega) (by omega) hv'
  have eL : fz (.lst ((srt (Fm.af [] [] s)).map fun n => .val (.int n))) = .lst ((srt (Fm.af [] [] s)).map PV.int) := by
    show PV.lst (fzs ((srt (Fm.af [] [] s)).map fun n => .val (.int n))) = _
    rw [fzs_map, List.map_map]
    rfl
  have g2 := gNe_self (deep_ints (l := srt (Fm.af [] [] s)))
  have hlen : (srt (Fm.af [] [] s)).length = (Fm.af [] [] s).length := (srt_perm _).length_eq
  by_cases hc : Fm.af [] [] s = []
  · have hf : Fm.fin [] s := by
      refine Fm.fr_nil.mp ?_
      cases q : Fm.fr [] s with
      | nil => rfl
      | cons a r =>
        have : a ∈ Fm.af [] [] s := Fm.mem_af.mpr (.inr (by rw [q]; exact List.mem_cons_self))
        rw [hc] at this
        cases this
    have i3 := outcome_ok s 39 (by omega) (by omega) hv' hf
    have i4 := law_tidy_eq s 39 (by omega) (by omega) hf
    have f2 : Fm.fin [] (Fm.rn [] 0 s).1 := Fm.fin_rn hf fun u hu => nomatch hu
    have r2 : Fm.rn [] 0 (Fm.rn [] 0 s).1 = Fm.rn [] 0 s := Fm.rn_rn hf fun u hu => nomatch hu
    have h3 : (Fm.rn [] 0 s).1.ht = s.ht := Fm.ht_rn
    have h4 : (Fm.rn [] 0 s).1.nv = s.nv := Fm.nv_rn
    have i5 := tidy_eq (Fm.rn [] 0 s).1 39 (by omega) (by omega) (by omega) f2
    rw [r2] at i5
    have g3 := gEq_self (deep_enc (s := (Fm.rn [] 0 s).1) (by omega))
    have c0 : decide ((0 : Int) < (((srt (Fm.af [] [] s)).length : Nat) : Int)) = false := by rw [hlen, hc]; rfl
    refine ⟨[e0, some (encD D), some (.val s.enc), e3, some (.val (.lst ((srt (Fm.af [] [] s)).map PV.int))), some (.val (Fm.rn [] 0 s).1.enc)], ?_⟩
    unfold bR
    simp only [fSeq_e, kSeq_nx, kSeq_rt, kSeq_bk, kSeq_ct, kSeq_exc, fIfS_e, kIfS_t, kIfS_f, fNx_e, fBk_e, fCt_e, fRetN_e, fRet_e, kRet_o, fExpr_e, kExpr_o, kExpr_x, fSet_e, kSet_o, fC_e, fV_e, kV_val, kV_lst, kV_dct, kV_ins, fM_e, kM_o, fZ_e, kZ_o, kG_o, ov_e, fO2_e, kO2_o, kO2'_o, fO1_e, kO1_o, fIsi_e, fB_e, kB_o, fNot_e, kNot_o, fAnd_e, kAnd_t, kAnd_f, fOr_e, kOr_t, kOr_f, fAndV_e, kAndV_t, kAndV_f, fOrV_e, kOrV_t, kOrV_f, fNotV_e, kNotV_o, fIf_e, kIf_t, kIf_f, fA0_e, fA1_e, kA1_o, kA1'_o, vls_nil, vls_cons, kVls_o, fTup_e, kTup_o, kTup'_o, fLst_e, kLst_o, fCB_e, kCB_o, kCB'_o, frE_nil, frE_c, fPk_e, kPk_int, kPk_bl, kPk_str, kPk_non, fz_val, fz_lst, fz_dct, fz_ins, fzs_nil, fzs_cons, fCall_e, kCall_o, kCall'_o, kCall'_x, kPut_o, putB_nil, putB_cons, kB1_s, kB1_n, kB2_n, outs_nil, outs_cons, kOuts_o, kCons_o, kOut_o, fn_e, kFn_nx, kFn_rt, kFn_x, fFor_e, kFor_o, kFor_x, loop_nil, loop_cons, kLoop_o, kLoop_nx, kLoop_ct, kLoop_bk, kLoop_rt, fIt_e, kIt_l, kIt_t, fR1_e, kR1_o, fR2_e, kR2_o, fR3_e, kR3_o, fGn_e, fGt_e, fGs1_e, kGs_o, fGs0_e, fAsg_e, kAsg_o, kAsg'_o, isL_e, kL_l, fApp_e, kApp_o, kApp'_o, fExt_e, kExt_o, kExt'_o, fPop_e, kPop_l, kPop'_o, fRev_e, kRev_l, fP0_e, fP1_e, kP1_i, fSl_e, kSl_o, kSl1_o, kSl2_o, fSetL_e, kSL_o, kSL1_o, fLc_e, kLc_o, kLc'_o, wipe_nil, wipe_cons, lcl_nil, lcl_cons, kLc1_o, kLc2_t, kLc2_f, kLc3_o, fYes_e, fD0_e, fDput_e, kDp_o, kDp1_o, kO_int, kDp2_o, isD_e, kD_d, fForD_e, noXF_e, kFD_d, noX_o, fSf_e, kSf_1, isI_e, kI_0, fMeth_e, kMe_o, kMe1_o, kMe2_o, fRaise_e, kRet_x, kSet_x, kIfS_x, kLoop_x, kCall_x, kB_x, kNot_x, kO2_x, fTry_e, kTry_x, kTry1_t, kTry1_f, kTry_o, deadE_nil, deadE_v, deadE_n, deadE_l, deadE_d, deadE_i, fzKs_nil, fT0_e, fz_dtt, kV_dtt, fPkT_e, kPkT_o, fDictO_e, kDictO_d, isTT_e, kTT_d, fTput_e, kTp_o, kTp1_o, kTp2_o, sV_bl, sV_int, kT_2, kT_3, fSfSet_e, kSfS_o, kSfS'_o, kWh_t, kWh_f, kWh'_nx, fD1_e, kD1_o, kD1'_o, eq_self, Int.reduceLT, Int.reduceLE, Int.reduceEq, Int.reduceNeg, Bool.false_eq_true, if_false, Option.map_some, Option.map_none, List.map_cons, List.map_nil, List.length_cons, List.length_nil, List.cons_append, List.nil_append, Nat.reduceAdd, Nat.reduceSub, List.replicate_succ, List.replicate_zero, List.append_nil, List.getElem?_cons_zero, List.getElem?_cons_succ, List.set_cons_zero, List.set_cons_succ, if_true, reduceIte, decide_true, decide_false, Bool.not_true, Bool.not_false, i1', g1, eL, i2, g2, i3, gLen_l, List.length_map, gGt_i, c0, i4, g3, i5]
  · have i3 := outcome_x s 39 (by omega) (by omega) hv' hc
    have hp : 0 < (Fm.af [] [] s).length := List.length_pos_iff.mpr hc
    have c1 : decide ((0 : Int) < (((srt (Fm.af [] [] s)).length : Nat) : Int)) = true := decide_eq_true (by omega)
    have g3 : gIs false .non .non = .ok (.val (.bl true)) := rfl
    refine ⟨[e0, some (encD D), some (.val s.enc), e3, some (.val (.lst ((srt (Fm.af [] [] s)).map PV.int))), some (.val .non)], ?_⟩
    unfold bR
    simp only [fSeq_e, kSeq_nx, kSeq_rt, kSeq_bk, kSeq_ct, kSeq_exc, fIfS_e, kIfS_t, kIfS_f, fNx_e, fBk_e, fCt_e, fRetN_e, fRet_e, kRet_o, fExpr_e, kExpr_o, kExpr_x, fSet_e, kSet_o, fC_e, fV_e, kV_val, kV_lst, kV_dct, kV_ins, fM_e, kM_o, fZ_e, kZ_o, kG_o, ov_e, fO2_e, kO2_o, kO2'_o, fO1_e, kO1_o, fIsi_e, fB_e, kB_o, fNot_e, kNot_o, fAnd_e, kAnd_t, kAnd_f, fOr_e, kOr_t, kOr_f, fAndV_e, kAndV_t, kAndV_f, fOrV_e, kOrV_t, kOrV_f, fNotV_e, kNotV_o, fIf_e, kIf_t, kIf_f, fA0_e, fA1_e, kA1_o, kA1'_o, vls_nil, vls_cons, kVls_o, fTup_e, kTup_o, kTup'_o, fLst_e, kLst_o, fCB_e, kCB_o, kCB'_o, frE_nil, frE_c, fPk_e, kPk_int, kPk_bl, kPk_str, kPk_non, fz_val, fz_lst, fz_dct, fz_ins, fzs_nil, fzs_cons, fCall_e, kCall_o, kCall'_o, kCall'_x, kPut_o, putB_nil, putB_cons, kB1_s, kB1_n, kB2_n, outs_nil, outs_cons, kOuts_o, kCons_o, kOut_o, fn_e, kFn_nx, kFn_rt, kFn_x, fFor_e, kFor_o, kFor_x, loop_nil, loop_cons, kLoop_o, kLoop_nx, kLoop_ct, kLoop_bk, kLoop_rt, fIt_e, kIt_l, kIt_t, fR1_e, kR1_o, fR2_e, kR2_o, fR3_e, kR3_o, fGn_e, fGt_e, fGs1_e, kGs_o, fGs0_e, fAsg_e, kAsg_o, kAsg'_o, isL_e, kL_l, fApp_e, kApp_o, kApp'_o, fExt_e, kExt_o, kExt'_o, fPop_e, kPop_l, kPop'_o, fRev_e, kRev_l, fP0_e, fP1_e, kP1_i, fSl_e, kSl_o, kSl1_o, kSl2_o, fSetL_e, kSL_o, kSL1_o, fLc_e, kLc_o, kLc'_o, wipe_nil, wipe_cons, lcl_nil, lcl_cons, kLc1_o, kLc2_t, kLc2_f, kLc3_o, fYes_e, fD0_e, fDput_e, kDp_o, kDp1_o, kO_int, kDp2_o, isD_e, kD_d, fForD_e, noXF_e, kFD_d, noX_o, fSf_e, kSf_1, isI_e, kI_0, fMeth_e, kMe_o, kMe1_o, kMe2_o, fRaise_e, kRet_x, kSet_x, kIfS_x, kLoop_x, kCall_x, kB_x, kNot_x, kO2_x, fTry_e, kTry_x, kTry1_t, kTry1_f, kTry_o, deadE_nil, deadE_v, deadE_n, deadE_l, deadE_d, deadE_i, fzKs_nil, fT0_e, fz_dtt, kV_dtt, fPkT_e, kPkT_o, fDictO_e, kDictO_d, isTT_e, kTT_d, fTput_e, kTp_o, kTp1_o, kTp2_o, sV_bl, sV_int, kT_2, kT_3, fSfSet_e, kSfS_o, kSfS'_o, kWh_t, kWh_f, kWh'_nx, fD1_e, kD1_o, kD1'_o, eq_self, Int.reduceLT, Int.reduceLE, Int.reduceEq, Int.reduceNeg, Bool.false_eq_true, if_false, Option.map_some, Option.map_none, List.map_cons, List.map_nil, List.length_cons, List.length_nil, List.cons_append, List.nil_append, Nat.reduceAdd, Nat.reduceSub, List.replicate_succ, List.replicate_zero, List.append_nil, List.getElem?_cons_zero, List.getElem?_cons_succ, List.set_cons_zero, List.set_cons_succ, if_true, reduceIte, decide_true, decide_false, Bool.not_true, Bool.not_false, i1', g1, eL, i2, g2, i3, gLen_l, List.length_map, gGt_i, c1, g3]
theorem law_true : ∀ ns : List Int, ns.length ≤ 63 → ∃ os, prog 40 i_law [.val (.scr ns)] = .ok (.val (.bl true), os) := fun ns _ => by
  obtain ⟨D0, eD⟩ := draws' 300 38 (by omega) ns
  obtain ⟨s, D1, eS, hS, fS, nS⟩ := closed_eq 4 39 D0 (by omega) (by omega)
  have eD' : prog 39 i__law_draws [.val (.scr ns), .val (.int 300)] = .ok (encD D0, []) := eD
  have eS' : prog 39 i__law_closed [encD D0, .val (.int 4)] = .ok (.val s.enc, [encD D1]) := eS
  have t2 : (0 : Int) < 2 := by decide
  have t4 : (0 : Int) < 4 := by decide
  have eb : (fIfS (fB (fO2 (gIn false) (fO2 gIx (fV 2) (fC (.int 0))) (fTup (fA1 (fC (.str z_and)) (fA1 (fC (.str z_or)) fA0))))) (fSet 2 (fTup (fA1 (fO2 gIx (fV 2) (fC (.int 0))) (fA1 (fTup (fA1 (fC (.str z_var)) (fA1 (fCall (prog 39 i__law_take) [0] [some 1, none] (fA1 (fM 1) (fA1 (fC (.int 3)) fA0))) fA0))) (fA1 (fO2 gIx (fV 2) (fC (.int 2))) fA0)))))
    (fIfS (fB (fO2 (gIn false) (fO2 gIx (fV 2) (fC (.int 0))) (fTup (fA1 (fC (.str z_least)) (fA1 (fC (.str z_most)) (fA1 (fC (.str z_some)) (fA1 (fC (.str z_all)) fA0))))))) (fSet 2 (fTup (fA1 (fO2 gIx (fV 2) (fC (.int 0))) (fA1 (fO2 gIx (fV 2) (fC (.int 1))) (fA1 (fTup (fA1 (fC (.str z_or)) (fA1 (fO2 gIx (fV 2) (fC (.int 2))) (fA1 (fTup (fA1 (fC (.str z_var)) (fA1 (fCall (prog 39 i__law_take) [0] [some 1, none] (fA1 (fM 1) (fA1 (fC (.int 3)) fA0))) fA0))) fA0)))) fA0)))))
    fNx)) = bOp 39 := rfl
  have er : (fSeq (fSet 4 (fZ (fCB gSrtS (fA1 (fCall (prog 39 i__law_free) [] [none, none] (fA1 (fV 2) (fA1 (fZ (fLst fA0)) fA0))) fA0))))
  (fSeq (fIfS (fB (fO2 gNe (fCall (prog 39 i_free_variables) [] [none] (fA1 (fV 2) fA0)) (fV 4))) (fRet (fC (.bl false)))
  fNx)
  (fSeq (fSet 5 (fCall (prog 39 i__law_outcome) [] [none] (fA1 (fV 2) fA0)))
  (fSeq (fIfS (fB (fO2 gGt (fCB gLen (fA1 (fV 4) fA0)) (fC (.int 0)))) (fRet (fO2 (gIs false) (fV 5) (fC .non)))
  fNx)
  (fRet (fAndV (fO2 gEq (fV 5) (fCall (prog 39 i__law_tidy) [] [none] (fA1 (fV 2) fA0))) (fO2 gEq (fCall (prog 39 i_tidy) [] [none] (fA1 (fV 5) fA0)) (fV 5)))))))) = bR := rfl
  have nv4 : s.nv ≤ 16 := by
    have := Fm.nv_ht (s := s)
    have h2 : 2 ^ s.ht ≤ 2 ^ 4 := Nat.pow_le_pow_right (by decide) hS
    omega
  refine ⟨[], ?_⟩
  rw [p_law]
  unfold b_law
  rw [eb, er]
  by_cases c : takeV D1 2 = 0
  · have h4 := takeV_range (takeR D1) (m := 4) (by decide)
    have cs : small (takeV (takeR D1) 4) = true := by unfold small; simp; omega
    obtain ⟨s', D', e3', q1, q3, q2⟩ := open_loop 38 (some (.val (.scr ns))) none none (rng 0 (takeV (takeR D1) 4)) s (takeR (takeR D1)) none
    have hr : (rng 0 (takeV (takeR D1) 4)).length ≤ 3 := by rw [rng_len]; omega
    obtain ⟨e', r⟩ := rest_law s' (by omega) (by omega) D' (some (.val (.scr ns))) e3'
    simp only [fSeq_e, kSeq_nx, kSeq_rt, kSeq_bk, kSeq_ct, kSeq_exc, fIfS_e, kIfS_t, kIfS_f, fNx_e, fBk_e, fCt_e, fRetN_e, fRet_e, kRet_o, fExpr_e, kExpr_o, kExpr_x, fSet_e, kSet_o, fC_e, fV_e, kV_val, kV_lst, kV_dct, kV_ins, fM_e, kM_o, fZ_e, kZ_o, kG_o, ov_e, fO2_e, kO2_o, kO2'_o, fO1_e, kO1_o, fIsi_e, fB_e, kB_o, fNot_e, kNot_o, fAnd_e, kAnd_t, kAnd_f, fOr_e, kOr_t, kOr_f, fAndV_e, kAndV_t, kAndV_f, fOrV_e, kOrV_t, kOrV_f, fNotV_e, kNotV_o, fIf_e, kIf_t, kIf_f, fA0_e, fA1_e, kA1_o, kA1'_o, vls_nil, vls_cons, kVls_o, fTup_e, kTup_o, kTup'_o, fLst_e, kLst_o, fCB_e, kCB_o, kCB'_o, frE_nil, frE_c, fPk_e, kPk_int, kPk_bl, kPk_str, kPk_non, fz_val, fz_lst, fz_dct, fz_ins, fzs_nil, fzs_cons, fCall_e, kCall_o, kCall'_o, kCall'_x, kPut_o, putB_nil, putB_cons, kB1_s, kB1_n, kB2_n, outs_nil, outs_cons, kOuts_o, kCons_o, kOut_o, fn_e, kFn_nx, kFn_rt, kFn_x, fFor_e, kFor_o, kFor_x, loop_nil, loop_cons, kLoop_o, kLoop_nx, kLoop_ct, kLoop_bk, kLoop_rt, fIt_e, kIt_l, kIt_t, fR1_e, kR1_o, fR2_e, kR2_o, fR3_e, kR3_o, fGn_e, fGt_e, fGs1_e, kGs_o, fGs0_e, fAsg_e, kAsg_o, kAsg'_o, isL_e, kL_l, fApp_e, kApp_o, kApp'_o, fExt_e, kExt_o, kExt'_o, fPop_e, kPop_l, kPop'_o, fRev_e, kRev_l, fP0_e, fP1_e, kP1_i, fSl_e, kSl_o, kSl1_o, kSl2_o, fSetL_e, kSL_o, kSL1_o, fLc_e, kLc_o, kLc'_o, wipe_nil, wipe_cons, lcl_nil, lcl_cons, kLc1_o, kLc2_t, kLc2_f, kLc3_o, fYes_e, fD0_e, fDput_e, kDp_o, kDp1_o, kO_int, kDp2_o, isD_e, kD_d, fForD_e, noXF_e, kFD_d, noX_o, fSf_e, kSf_1, isI_e, kI_0, fMeth_e, kMe_o, kMe1_o, kMe2_o, fRaise_e, kRet_x, kSet_x, kIfS_x, kLoop_x, kCall_x, kB_x, kNot_x, kO2_x, fTry_e, kTry_x, kTry1_t, kTry1_f, kTry_o, deadE_nil, deadE_v, deadE_n, deadE_l, deadE_d, deadE_i, fzKs_nil, fT0_e, fz_dtt, kV_dtt, fPkT_e, kPkT_o, fDictO_e, kDictO_d, isTT_e, kTT_d, fTput_e, kTp_o, kTp1_o, kTp2_o, sV_bl, sV_int, kT_2, kT_3, fSfSet_e, kSfS_o, kSfS'_o, kWh_t, kWh_f, kWh'_nx, fD1_e, kD1_o, kD1'_o, eq_self, Int.reduceLT, Int.reduceLE, Int.reduceEq, Int.reduceNeg, Bool.false_eq_true, if_false, Option.map_some, Option.map_none, List.map_cons, List.map_nil, List.length_cons, List.length_nil, List.cons_append, List.nil_append, Nat.reduceAdd, Nat.reduceSub, List.replicate_succ, List.replicate_zero, List.append_nil, List.getElem?_cons_zero, List.getElem?_cons_succ, List.set_cons_zero, List.set_cons_succ, if_true, reduceIte, decide_true, decide_false, Bool.not_true, Bool.not_false, eD', eS', tk t2, tk t4, gEq_int, c, cs, q2, r]
  · obtain ⟨e', r⟩ := rest_law s (by omega) (by omega) (takeR D1) (some (.val (.scr ns))) none
    simp only [fSeq_e, kSeq_nx, kSeq_rt, kSeq_bk, kSeq_ct, kSeq_exc, fIfS_e, kIfS_t, kIfS_f, fNx_e, fBk_e, fCt_e, fRetN_e, fRet_e, kRet_o, fExpr_e, kExpr_o, kExpr_x, fSet_e, kSet_o, fC_e, fV_e, kV_val, kV_lst, kV_dct, kV_ins, fM_e, kM_o, fZ_e, kZ_o, kG_o, ov_e, fO2_e, kO2_o, kO2'_o, fO1_e, kO1_o, fIsi_e, fB_e, kB_o, fNot_e, kNot_o, fAnd_e, kAnd_t, kAnd_f, fOr_e, kOr_t, kOr_f, fAndV_e, kAndV_t, kAndV_f, fOrV_e, kOrV_t, kOrV_f, fNotV_e, kNotV_o, fIf_e, kIf_t, kIf_f, fA0_e, fA1_e, kA1_o, kA1'_o, vls_nil, vls_cons, kVls_o, fTup_e, kTup_o, kTup'_o, fLst_e, kLst_o, fCB_e, kCB_o, kCB'_o, frE_nil, frE_c, fPk_e, kPk_int, kPk_bl, kPk_str, kPk_non, fz_val, fz_lst, fz_dct, fz_ins, fzs_nil, fzs_cons, fCall_e, kCall_o, kCall'_o, kCall'_x, kPut_o, putB_nil, putB_cons, kB1_s, kB1_n, kB2_n, outs_nil, outs_cons, kOuts_o, kCons_o, kOut_o, fn_e, kFn_nx, kFn_rt, kFn_x, fFor_e, kFor_o, kFor_x, loop_nil, loop_cons, kLoop_o, kLoop_nx, kLoop_ct, kLoop_bk, kLoop_rt, fIt_e, kIt_l, kIt_t, fR1_e, kR1_o, fR2_e, kR2_o, fR3_e, kR3_o, fGn_e, fGt_e, fGs1_e, kGs_o, fGs0_e, fAsg_e, kAsg_o, kAsg'_o, isL_e, kL_l, fApp_e, kApp_o, kApp'_o, fExt_e, kExt_o, kExt'_o, fPop_e, kPop_l, kPop'_o, fRev_e, kRev_l, fP0_e, fP1_e, kP1_i, fSl_e, kSl_o, kSl1_o, kSl2_o, fSetL_e, kSL_o, kSL1_o, fLc_e, kLc_o, kLc'_o, wipe_nil, wipe_cons, lcl_nil, lcl_cons, kLc1_o, kLc2_t, kLc2_f, kLc3_o, fYes_e, fD0_e, fDput_e, kDp_o, kDp1_o, kO_int, kDp2_o, isD_e, kD_d, fForD_e, noXF_e, kFD_d, noX_o, fSf_e, kSf_1, isI_e, kI_0, fMeth_e, kMe_o, kMe1_o, kMe2_o, fRaise_e, kRet_x, kSet_x, kIfS_x, kLoop_x, kCall_x, kB_x, kNot_x, kO2_x, fTry_e, kTry_x, kTry1_t, kTry1_f, kTry_o, deadE_nil, deadE_v, deadE_n, deadE_l, deadE_d, deadE_i, fzKs_nil, fT0_e, fz_dtt, kV_dtt, fPkT_e, kPkT_o, fDictO_e, kDictO_d, isTT_e, kTT_d, fTput_e, kTp_o, kTp1_o, kTp2_o, sV_bl, sV_int, kT_2, kT_3, fSfSet_e, kSfS_o, kSfS'_o, kWh_t, kWh_f, kWh'_nx, fD1_e, kD1_o, kD1'_o, eq_self, Int.reduceLT, Int.reduceLE, Int.reduceEq, Int.reduceNeg, Bool.false_eq_true, if_false, Option.map_some, Option.map_none, List.map_cons, List.map_nil, List.length_cons, List.length_nil, List.cons_append, List.nil_append, Nat.reduceAdd, Nat.reduceSub, List.replicate_succ, List.replicate_zero, List.append_nil, List.getElem?_cons_zero, List.getElem?_cons_succ, List.set_cons_zero, List.set_cons_succ, if_true, reduceIte, decide_true, decide_false, Bool.not_true, Bool.not_false, eD', eS', tk t2, gEq_int, c, r]
end L01

namespace L01
open PySem L2 Ev
theorem S_parts_in : FnScope N_parts_in ["statement"] (defScope s_parts_in) := ⟨rfl, rfl, rfl, by decide +kernel, rfl, by decide +kernel, by decide +kernel⟩
theorem S_add_free : FnScope N_add_free ["statement", "bound", "found"] (defScope s_add_free) := ⟨rfl, rfl, rfl, by decide +kernel, rfl, by decide +kernel, by decide +kernel⟩
theorem S_free_variables : FnScope N_free_variables ["statement"] (defScope s_free_variables) := ⟨rfl, rfl, rfl, by decide +kernel, rfl, by decide +kernel, by decide +kernel⟩
theorem S_check_closed : FnScope N_check_closed ["statement"] (defScope s_check_closed) := ⟨rfl, rfl, rfl, by decide +kernel, rfl, by decide +kernel, by decide +kernel⟩
theorem S_Renamer_init : FnScope N_Renamer_init ["self"] (defScope s_Renamer_init) := ⟨rfl, rfl, rfl, by decide +kernel, rfl, by decide +kernel, by decide +kernel⟩
theorem S_Renamer_renamed : FnScope N_Renamer_renamed ["self", "statement", "names"] (defScope s_Renamer_renamed) := ⟨rfl, rfl, rfl, by decide +kernel, rfl, by decide +kernel, by decide +kernel⟩
theorem S_tidy : FnScope N_tidy ["statement"] (defScope s_tidy) := ⟨rfl, rfl, rfl, by decide +kernel, rfl, by decide +kernel, by decide +kernel⟩
theorem S__law_draws : FnScope N__law_draws ["_law_script", "_law_count"] (defScope s__law_draws) := ⟨rfl, rfl, rfl, by decide +kernel, rfl, by decide +kernel, by decide +kernel⟩
theorem S__law_take : FnScope N__law_take ["_law_draws_here", "_law_limit"] (defScope s__law_take) := ⟨rfl, rfl, rfl, by decide +kernel, rfl, by decide +kernel, by decide +kernel⟩
theorem S__law_inner : FnScope N__law_inner ["_law_statement_here"] (defScope s__law_inner) := ⟨rfl, rfl, rfl, by decide +kernel, rfl, by decide +kernel, by decide +kernel⟩
theorem S__law_atom : FnScope N__law_atom ["_law_draws_here", "_law_ready"] (defScope s__law_atom) := ⟨rfl, rfl, rfl, by decide +kernel, rfl, by decide +kernel, by decide +kernel⟩
theorem S__law_statement : FnScope N__law_statement ["_law_draws_here", "_law_depth", "_law_waiting", "_law_ready", "_law_loose"] (defScope s__law_statement) := ⟨rfl, rfl, rfl, by decide +kernel, rfl, by decide +kernel, by decide +kernel⟩
theorem S__law_closed : FnScope N__law_closed ["_law_draws_here", "_law_depth"] (defScope s__law_closed) := ⟨rfl, rfl, rfl, by decide +kernel, rfl, by decide +kernel, by decide +kernel⟩
theorem S__law_free : FnScope N__law_free ["_law_statement_here", "_law_bound"] (defScope s__law_free) := ⟨rfl, rfl, rfl, by decide +kernel, rfl, by decide +kernel, by decide +kernel⟩
theorem S__law_tidy_from : FnScope N__law_tidy_from ["_law_statement_here", "_law_names", "_law_number"] (defScope s__law_tidy_from) := ⟨rfl, rfl, rfl, by decide +kernel, rfl, by decide +kernel, by decide +kernel⟩
theorem S__law_tidy : FnScope N__law_tidy ["_law_statement_here"] (defScope s__law_tidy) := ⟨rfl, rfl, rfl, by decide +kernel, rfl, by decide +kernel, by decide +kernel⟩
theorem S__law_outcome : FnScope N__law_outcome ["_law_statement_here"] (defScope s__law_outcome) := ⟨rfl, rfl, rfl, by decide +kernel, rfl, by decide +kernel, by decide +kernel⟩
theorem S_law : FnScope N_law ["_law_script"] (defScope s_law) := ⟨rfl, rfl, rfl, by decide +kernel, rfl, by decide +kernel, by decide +kernel⟩
structure Ad where
  f_parts_in : Addr
  d_parts_in : FuncData
  f_add_free : Addr
  d_add_free : FuncData
  f_free_variables : Addr
  d_free_variables : FuncData
  f_check_closed : Addr
  d_check_closed : FuncData
  f_Renamer_init : Addr
  d_Renamer_init : FuncData
  f_Renamer_renamed : Addr
  d_Renamer_renamed : FuncData
  f_tidy : Addr
  d_tidy : FuncData
  f__law_draws : Addr
  d__law_draws : FuncData
  f__law_take : Addr
  d__law_take : FuncData
  f__law_inner : Addr
  d__law_inner : FuncData
  f__law_atom : Addr
  d__law_atom : FuncData
  f__law_statement : Addr
  d__law_statement : FuncData
  f__law_closed : Addr
  d__law_closed : FuncData
  f__law_free : Addr
  d__law_free : FuncData
  f__law_tidy_from : Addr
  d__law_tidy_from : FuncData
  f__law_tidy : Addr
  d__law_tidy : FuncData
  f__law_outcome : Addr
  d__law_outcome : FuncData
  f_law : Addr
  d_law : FuncData
  c_Renamer : Addr
  e_NotClosed : Addr
  e_FixError : Addr
structure Tx (w : World) (K : PySem.W.Frag) (mg : Str → Option Value) (A : Ad) : Prop where
  f_parts_in : Fun K "parts_in" "parts_in" s_parts_in A.f_parts_in A.d_parts_in
  b_parts_in : Binds K A.d_parts_in ["statement"] []
  f_add_free : Fun K "add_free" "add_free" s_add_free A.f_add_free A.d_add_free
  b_add_free : Binds K A.d_add_free ["statement", "bound", "found"] []
  f_free_variables : Fun K "free_variables" "free_variables" s_free_variables A.f_free_variables A.d_free_variables
  b_free_variables : Binds K A.d_free_variables ["statement"] []
  f_check_closed : Fun K "check_closed" "check_closed" s_check_closed A.f_check_closed A.d_check_closed
  b_check_closed : Binds K A.d_check_closed ["statement"] []
  f_Renamer_init : Fun K "__init__" "Renamer.__init__" s_Renamer_init A.f_Renamer_init A.d_Renamer_init
  b_Renamer_init : Binds K A.d_Renamer_init ["self"] []
  f_Renamer_renamed : Fun K "renamed" "Renamer.renamed" s_Renamer_renamed A.f_Renamer_renamed A.d_Renamer_renamed
  b_Renamer_renamed : Binds K A.d_Renamer_renamed ["self", "statement", "names"] []
  f_tidy : Fun K "tidy" "tidy" s_tidy A.f_tidy A.d_tidy
  b_tidy : Binds K A.d_tidy ["statement"] []
  f__law_draws : Fun K "_law_draws" "_law_draws" s__law_draws A.f__law_draws A.d__law_draws
  b__law_draws : Binds K A.d__law_draws ["_law_script", "_law_count"] []
  f__law_take : Fun K "_law_take" "_law_take" s__law_take A.f__law_take A.d__law_take
  b__law_take : Binds K A.d__law_take ["_law_draws_here", "_law_limit"] []
  f__law_inner : Fun K "_law_inner" "_law_inner" s__law_inner A.f__law_inner A.d__law_inner
  b__law_inner : Binds K A.d__law_inner ["_law_statement_here"] []
  f__law_atom : Fun K "_law_atom" "_law_atom" s__law_atom A.f__law_atom A.d__law_atom
  b__law_atom : Binds K A.d__law_atom ["_law_draws_here", "_law_ready"] []
  f__law_statement : Fun K "_law_statement" "_law_statement" s__law_statement A.f__law_statement A.d__law_statement
  b__law_statement : Binds K A.d__law_statement ["_law_draws_here", "_law_depth", "_law_waiting", "_law_ready", "_law_loose"] []
  f__law_closed : Fun K "_law_closed" "_law_closed" s__law_closed A.f__law_closed A.d__law_closed
  b__law_closed : Binds K A.d__law_closed ["_law_draws_here", "_law_depth"] []
  f__law_free : Fun K "_law_free" "_law_free" s__law_free A.f__law_free A.d__law_free
  b__law_free : Binds K A.d__law_free ["_law_statement_here", "_law_bound"] []
  f__law_tidy_from : Fun K "_law_tidy_from" "_law_tidy_from" s__law_tidy_from A.f__law_tidy_from A.d__law_tidy_from
  b__law_tidy_from : Binds K A.d__law_tidy_from ["_law_statement_here", "_law_names", "_law_number"] []
  f__law_tidy : Fun K "_law_tidy" "_law_tidy" s__law_tidy A.f__law_tidy A.d__law_tidy
  b__law_tidy : Binds K A.d__law_tidy ["_law_statement_here"] []
  f__law_outcome : Fun K "_law_outcome" "_law_outcome" s__law_outcome A.f__law_outcome A.d__law_outcome
  b__law_outcome : Binds K A.d__law_outcome ["_law_statement_here"] []
  f_law : Fun K "law" "law" s_law A.f_law A.d_law
  b_law : Binds K A.d_law ["_law_script"] []
  g_parts_in : mg "parts_in" = some (.ref A.f_parts_in)
  g_add_free : mg "add_free" = some (.ref A.f_add_free)
  g_free_variables : mg "free_variables" = some (.ref A.f_free_variables)
  g_check_closed : mg "check_closed" = some (.ref A.f_check_closed)
  g_tidy : mg "tidy" = some (.ref A.f_tidy)
  g__law_draws : mg "_law_draws" = some (.ref A.f__law_draws)
  g__law_take : mg "_law_take" = some (.ref A.f__law_take)
  g__law_inner : mg "_law_inner" = some (.ref A.f__law_inner)
  g__law_atom : mg "_law_atom" = some (.ref A.f__law_atom)
  g__law_statement : mg "_law_statement" = some (.ref A.f__law_statement)
  g__law_closed : mg "_law_closed" = some (.ref A.f__law_closed)
  g__law_free : mg "_law_free" = some (.ref A.f__law_free)
  g__law_tidy_from : mg "_law_tidy_from" = some (.ref A.f__law_tidy_from)
  g__law_tidy : mg "_law_tidy" = some (.ref A.f__law_tidy)
  g__law_outcome : mg "_law_outcome" = some (.ref A.f__law_outcome)
  g_law : mg "law" = some (.ref A.f_law)
  g_Renamer : mg "Renamer" = some (.ref A.c_Renamer)
  cl_Renamer : Cls K A.c_Renamer
  mk_Renamer : Mk K A.c_Renamer A.f_Renamer_init
  m_Renamer_renamed : Meth K A.c_Renamer "renamed" A.f_Renamer_renamed
  na_Renamer_count : NoAttr K A.c_Renamer "count"
  g_NotClosed : mg "NotClosed" = some (.ref A.e_NotClosed)
  x_NotClosed : PySem.W.excIn K A.e_NotClosed [.type "ValueError", .type "Exception", .type "BaseException", .type "object"] "ValueError.__new__" = true
  kp_NotClosed : PySem.W.keepIn K (.ref A.e_NotClosed) = true
  sb_NotClosed : PySem.W.subIn K (.ref A.e_NotClosed) (.type "BaseException") = some true
  ty_NotClosed : PySem.W.typeIn K (.ref A.e_NotClosed) = some (.type "type")
  em_NotClosed : PySem.W.exmOne K (.ref A.e_NotClosed) (.ref A.e_NotClosed) = some true
  g_FixError : mg "FixError" = some (.ref A.e_FixError)
  xc_NotClosed : ExcC K A.e_NotClosed
  ki_NotClosed_FixError : PySem.W.kitOne K (.ref A.e_NotClosed) (.ref A.e_FixError) = some true
  ki_NotClosed_ValueError : PySem.W.kitOne K (.ref A.e_NotClosed) (.type "ValueError") = some true
  n_ValueError : mg "ValueError" = none
  n_dict : mg "dict" = none
  n_int : mg "int" = none
  n_isinstance : mg "isinstance" = none
  n_len : mg "len" = none
  n_list : mg "list" = none
  n_range : mg "range" = none
  n_set : mg "set" = none
  n_sorted : mg "sorted" = none
  n_tuple : mg "tuple" = none
  k_BINDERS : ∃ a, mg "BINDERS" = some (.ref a) ∧ ∀ H, SqT K H a k_BINDERS
section
variable {P : Program} {w : World} {K : PySem.W.Frag} {mg : Str → Option Value} {base : Heap} {A : Ad} {n : Nat}
variable (P w K mg base A n) in
structure Ok : Prop where
  c_parts_in : FnOk P w K mg base (L2.CX P w) (2 * n) A.f_parts_in A.d_parts_in ["statement"] (spF ⟨K, mg⟩ 1 [] (prog n i_parts_in))
  c_add_free : FnOk P w K mg base (L2.CX P w) (2 * n) A.f_add_free A.d_add_free ["statement", "bound", "found"] (spF ⟨K, mg⟩ 3 [2] (prog n i_add_free))
  c_free_variables : FnOk P w K mg base (L2.CX P w) (2 * n) A.f_free_variables A.d_free_variables ["statement"] (spF ⟨K, mg⟩ 1 [] (prog n i_free_variables))
  c_check_closed : FnOk P w K mg base (L2.CX P w) (2 * n) A.f_check_closed A.d_check_closed ["statement"] (spF ⟨K, mg⟩ 1 [] (prog n i_check_closed))
  c_Renamer_init : FnOk P w K mg base (L2.CX P w) (2 * n) A.f_Renamer_init A.d_Renamer_init ["self"] (spF ⟨K, mg⟩ 1 [0] (prog n i_Renamer_init))
  c_Renamer_renamed : FnOk P w K mg base (L2.CX P w) (2 * n) A.f_Renamer_renamed A.d_Renamer_renamed ["self", "statement", "names"] (spF ⟨K, mg⟩ 3 [0] (prog n i_Renamer_renamed))
  c_tidy : FnOk P w K mg base (L2.CX P w) (2 * n) A.f_tidy A.d_tidy ["statement"] (spF ⟨K, mg⟩ 1 [] (prog n i_tidy))
  c__law_draws : FnOk P w K mg base (L2.CX P w) (2 * n) A.f__law_draws A.d__law_draws ["_law_script", "_law_count"] (spF ⟨K, mg⟩ 2 [] (prog n i__law_draws))
  c__law_take : FnOk P w K mg base (L2.CX P w) (2 * n) A.f__law_take A.d__law_take ["_law_draws_here", "_law_limit"] (spF ⟨K, mg⟩ 2 [0] (prog n i__law_take))
  c__law_inner : FnOk P w K mg base (L2.CX P w) (2 * n) A.f__law_inner A.d__law_inner ["_law_statement_here"] (spF ⟨K, mg⟩ 1 [] (prog n i__law_inner))
  c__law_atom : FnOk P w K mg base (L2.CX P w) (2 * n) A.f__law_atom A.d__law_atom ["_law_draws_here", "_law_ready"] (spF ⟨K, mg⟩ 2 [0] (prog n i__law_atom))
  c__law_statement : FnOk P w K mg base (L2.CX P w) (2 * n) A.f__law_statement A.d__law_statement ["_law_draws_here", "_law_depth", "_law_waiting", "_law_ready", "_law_loose"] (spF ⟨K, mg⟩ 5 [0] (prog n i__law_statement))
  c__law_closed : FnOk P w K mg base (L2.CX P w) (2 * n) A.f__law_closed A.d__law_closed ["_law_draws_here", "_law_depth"] (spF ⟨K, mg⟩ 2 [0] (prog n i__law_closed))
  c__law_free : FnOk P w K mg base (L2.CX P w) (2 * n) A.f__law_free A.d__law_free ["_law_statement_here", "_law_bound"] (spF ⟨K, mg⟩ 2 [] (prog n i__law_free))
  c__law_tidy_from : FnOk P w K mg base (L2.CX P w) (2 * n) A.f__law_tidy_from A.d__law_tidy_from ["_law_statement_here", "_law_names", "_law_number"] (spF ⟨K, mg⟩ 3 [] (prog n i__law_tidy_from))
  c__law_tidy : FnOk P w K mg base (L2.CX P w) (2 * n) A.f__law_tidy A.d__law_tidy ["_law_statement_here"] (spF ⟨K, mg⟩ 1 [] (prog n i__law_tidy))
  c__law_outcome : FnOk P w K mg base (L2.CX P w) (2 * n) A.f__law_outcome A.d__law_outcome ["_law_statement_here"] (spF ⟨K, mg⟩ 1 [] (prog n i__law_outcome))
  c_law : FnOk P w K mg base (L2.CX P w) (2 * n) A.f_law A.d_law ["_law_script"] (spF ⟨K, mg⟩ 1 [] (prog n i_law))
theorem ok_parts_in (T : Tx w K mg A) (O : Ok P w K mg base A n) : FnOk P w K mg base (L2.CX P w) (2 * n + 1 + 1) A.f_parts_in A.d_parts_in ["statement"] (spF ⟨K, mg⟩ 1 [] (fn 2 [] (b_parts_in (prog n)))) :=
  fn_ok (N := N_parts_in) (ts := []) T.f_parts_in S_parts_in (by decide) fun cdv R outer s H E hr tk hp => by
  have hu := hu65 hr
  unfold b_parts_in
  exact (jss_one (js_ret (je_z (je_lc rfl S_parts_in.nd (own := [("part", 1)]) (ji_seq (je_sl (je_v (pv 0)) (jp_1 je_int) jp_0)) (blkOk_by (by first | (change blkC N_parts_in (defScope s_parts_in) _ _ = true; decide +kernel) | kernel_rfl | rfl)) (fun _ _ _ _ _ => (jg_n (i := 1) S_parts_in.nd rfl (by first | exact Or.inl rfl | exact Or.inr rfl))) (fun _ _ _ _ _ => (jts_1 (jt_val (je_isi rfl T.n_isinstance rfl T.n_tuple (by rfl) (je_v (pv 1)))))) (fun _ _ _ _ _ => (je_v (pv 1)))))))
theorem ok_add_free (T : Tx w K mg A) (O : Ok P w K mg base A n) : FnOk P w K mg base (L2.CX P w) (2 * n + 1 + 1) A.f_add_free A.d_add_free ["statement", "bound", "found"] (spF ⟨K, mg⟩ 3 [2] (fn 4 [2] (b_add_free (prog n)))) :=
  fn_ok (N := N_add_free) (ts := [3]) T.f_add_free S_add_free (by decide) fun cdv R outer s H E hr tk hp => by
  have hu := hu65 hr
  unfold b_add_free
  exact (jss_one (js_if (jt_eq hu (je_at (je_v (pv 0)) je_int) (je_str)) (jss_one (js_if (jt_nin (je_at (je_v (pv 0)) je_int) (je_v (pv 1))) (jss_one (js_dput (hu1 hu) (pv 2) (je_at (je_v (pv 0)) je_int) je_bl))
  jss_nil))
  (jss_one (js_if (jt_inG T.k_BINDERS rfl (by decide +kernel) (je_at (je_v (pv 0)) je_int)) (jss_one (js_expr (je_call tk O.c_add_free (hr.mono (Nat.le_succ _)) rfl T.g_add_free T.f_add_free.kp T.b_add_free (ja_1 (je_at (je_v (pv 0)) je_int) (ja_1 (je_z (je_add (je_v (pv 1)) (je_z (je_lst (ja_1 (je_at (je_v (pv 0)) je_int) ja_0))))) (ja_io (pv 2) ja_0))))))
  (jss_one (js_for nosD hp rfl (ji_seq (je_call tk O.c_parts_in (hr.mono (Nat.le_succ _)) rfl T.g_parts_in T.f_parts_in.kp T.b_parts_in (ja_1 (je_v (pv 0)) ja_0))) (jg_n (i := 3) S_add_free.nd rfl (by first | exact Or.inl rfl | exact Or.inr rfl))
  (jss_one (js_expr (je_call tk O.c_add_free (hr.mono (Nat.le_succ _)) rfl T.g_add_free T.f_add_free.kp T.b_add_free (ja_1 (je_v (pv 3)) (ja_1 (je_v (pv 1)) (ja_io (pv 2) ja_0))))))))))))
theorem ok_free_variables (T : Tx w K mg A) (O : Ok P w K mg base A n) : FnOk P w K mg base (L2.CX P w) (2 * n + 1 + 1) A.f_free_variables A.d_free_variables ["statement"] (spF ⟨K, mg⟩ 1 [] (fn 2 [] (b_free_variables (prog n)))) :=
  fn_ok (N := N_free_variables) (ts := [1]) T.f_free_variables S_free_variables (by decide) fun cdv R outer s H E hr tk hp => by
  have hu := hu65 hr
  unfold b_free_variables
  exact (jss_cons nosD (js_set (i := 1) S_free_variables.nd rfl (by first | exact Or.inl rfl | exact Or.inr rfl) je_d0)
  (jss_cons nosD (js_expr (je_call tk O.c_add_free (hr.mono (Nat.le_succ _)) rfl T.g_add_free T.f_add_free.kp T.b_add_free (ja_1 (je_v (pv 0)) (ja_1 (je_z (je_lst ja_0)) (ja_io (pv 1) ja_0)))))
  (jss_one (js_ret (je_z (je_cb (call_sortedDI rfl) on_sortedD calm_sortedD rfl T.n_sorted (by rfl) (ja_1 (je_v (pv 1)) ja_0)))))))
theorem ok_check_closed (T : Tx w K mg A) (O : Ok P w K mg base A n) : FnOk P w K mg base (L2.CX P w) (2 * n + 1 + 1) A.f_check_closed A.d_check_closed ["statement"] (spF ⟨K, mg⟩ 1 [] (fn 1 [] (b_check_closed (prog n)))) :=
  fn_ok (N := N_check_closed) (ts := []) T.f_check_closed S_check_closed (by decide) fun cdv R outer s H E hr tk hp => by
  have hu := hu65 hr
  unfold b_check_closed
  exact (jss_one (js_if (jt_gt (je_cb cr_len on_len calm_len rfl T.n_len (by rfl) (ja_1 (je_call tk O.c_free_variables (hr.mono (Nat.le_succ _)) rfl T.g_free_variables T.f_free_variables.kp T.b_free_variables (ja_1 (je_v (pv 0)) ja_0)) ja_0)) je_int) (jss_one (js_raise rfl tk PySem.F.excBase_ValueError T.x_NotClosed T.g_NotClosed T.kp_NotClosed (raises_own T.sb_NotClosed T.ty_NotClosed) rfl))
  jss_nil))
theorem ok_Renamer_init (T : Tx w K mg A) (O : Ok P w K mg base A n) : FnOk P w K mg base (L2.CX P w) (2 * n + 1 + 1) A.f_Renamer_init A.d_Renamer_init ["self"] (spF ⟨K, mg⟩ 1 [0] (fn 1 [0] (b_Renamer_init (prog n)))) :=
  fn_ok (N := N_Renamer_init) (ts := []) T.f_Renamer_init S_Renamer_init (by decide) fun cdv R outer s H E hr tk hp => by
  have hu := hu65 hr
  unfold b_Renamer_init
  exact (jss_one (js_sf (cf_mk T.g_Renamer T.cl_Renamer T.na_Renamer_count) (pv 0) je_int))
theorem ok_Renamer_renamed (T : Tx w K mg A) (O : Ok P w K mg base A n) : FnOk P w K mg base (L2.CX P w) (2 * n + 1 + 1) A.f_Renamer_renamed A.d_Renamer_renamed ["self", "statement", "names"] (spF ⟨K, mg⟩ 3 [0] (fn 8 [0] (b_Renamer_renamed (prog n)))) :=
  fn_ok (N := N_Renamer_renamed) (ts := [3, 4, 5, 6, 7]) T.f_Renamer_renamed S_Renamer_renamed (by decide) fun cdv R outer s H E hr tk hp => by
  have hu := hu65 hr
  unfold b_Renamer_renamed
  exact (jss_cons nosD (js_set (i := 3) S_Renamer_renamed.nd rfl (by first | exact Or.inl rfl | exact Or.inr rfl) (je_at (je_v (pv 1)) je_int))
  (jss_cons nosD (js_if (jt_eq hu (je_v (pv 3)) (je_str)) (jss_one (js_ret (je_tup (ja_1 (je_str) (ja_1 (je_dget (hu1 hu) (je_v (pv 2)) (je_at (je_v (pv 1)) je_int) (by intro _ _; rfl)) ja_0)))))
  jss_nil)
  (jss_cons nosD (js_if (jt_inG T.k_BINDERS rfl (by decide +kernel) (je_v (pv 3))) (jss_cons nosD (js_set (i := 4) S_Renamer_renamed.nd rfl (by first | exact Or.inl rfl | exact Or.inr rfl) (je_sf (cf_mk T.g_Renamer T.cl_Renamer T.na_Renamer_count) (pv 0)))
  (jss_cons nosD (js_sfa (cf_mk T.g_Renamer T.cl_Renamer T.na_Renamer_count) (pv 0) in_add o2_rAdd calm_I0 je_int)
  (jss_cons nosD (js_set (i := 5) S_Renamer_renamed.nd rfl (by first | exact Or.inl rfl | exact Or.inr rfl) (je_cbT call_dictD on_dict calm_dict rfl T.n_dict (by rfl) (ja_1 (je_v (pv 2)) ja_0)))
  (jss_cons nosD (js_dput (hu1 hu) (pv 5) (je_at (je_v (pv 1)) je_int) (je_v (pv 4)))
  (jss_one (js_ret (je_tup (ja_1 (je_v (pv 3)) (ja_1 (je_v (pv 4)) (ja_1 (je_meth nosD tk (pv 0) (cls_of T.g_Renamer) T.cl_Renamer T.m_Renamer_renamed O.c_Renamer_renamed (hr.mono (Nat.le_succ _)) T.b_Renamer_renamed (ja_1 (je_at (je_v (pv 1)) je_int) (ja_1 (je_v (pv 5)) ja_0))) ja_0))))))))))
  jss_nil)
  (jss_cons nosD (js_set (i := 6) S_Renamer_renamed.nd rfl (by first | exact Or.inl rfl | exact Or.inr rfl) (je_lst (ja_1 (je_v (pv 3)) ja_0)))
  (jss_cons nosD (js_for nosD hp rfl (ji_seq (je_sl (je_v (pv 1)) (jp_1 je_int) jp_0)) (jg_n (i := 7) S_Renamer_renamed.nd rfl (by first | exact Or.inl rfl | exact Or.inr rfl))
  (jss_one (js_if (jt_val (je_isi rfl T.n_isinstance rfl T.n_tuple (by rfl) (je_v (pv 7)))) (jss_one (js_expr (je_app (pv 6) (je_meth nosD tk (pv 0) (cls_of T.g_Renamer) T.cl_Renamer T.m_Renamer_renamed O.c_Renamer_renamed (hr.mono (Nat.le_succ _)) T.b_Renamer_renamed (ja_1 (je_v (pv 7)) (ja_1 (je_v (pv 2)) ja_0))))))
  (jss_one (js_expr (je_app (pv 6) (je_v (pv 7))))))))
  (jss_one (js_ret (je_cbT call_tuple_of on_tuple calm_tuple rfl T.n_tuple (by rfl) (ja_1 (je_v (pv 6)) ja_0)))))))))
theorem ok_tidy (T : Tx w K mg A) (O : Ok P w K mg base A n) : FnOk P w K mg base (L2.CX P w) (2 * n + 1 + 1) A.f_tidy A.d_tidy ["statement"] (spF ⟨K, mg⟩ 1 [] (fn 1 [] (b_tidy (prog n)))) :=
  fn_ok (N := N_tidy) (ts := []) T.f_tidy S_tidy (by decide) fun cdv R outer s H E hr tk hp => by
  have hu := hu65 hr
  unfold b_tidy
  exact (jss_cons nosD (js_expr (je_call tk O.c_check_closed (hr.mono (Nat.le_succ _)) rfl T.g_check_closed T.f_check_closed.kp T.b_check_closed (ja_1 (je_v (pv 0)) ja_0)))
  (jss_one (js_ret (je_methE nosD tk (je_make0 nosD tk T.mk_Renamer O.c_Renamer_init hr rfl T.g_Renamer T.b_Renamer_init) (cls_of T.g_Renamer) T.cl_Renamer T.m_Renamer_renamed O.c_Renamer_renamed (hr.mono (Nat.le_succ _)) T.b_Renamer_renamed (ja_1 (je_v (pv 0)) (ja_1 (je_z je_d0) ja_0))))))
theorem ok__law_draws (T : Tx w K mg A) (O : Ok P w K mg base A n) : FnOk P w K mg base (L2.CX P w) (2 * n + 1 + 1) A.f__law_draws A.d__law_draws ["_law_script", "_law_count"] (spF ⟨K, mg⟩ 2 [] (fn 9 [] (b__law_draws (prog n)))) :=
  fn_ok (N := N__law_draws) (ts := [2, 3, 4, 5, 6, 7, 8]) T.f__law_draws S__law_draws (by decide) fun cdv R outer s H E hr tk hp => by
  have hu := hu65 hr
  unfold b__law_draws
  exact (jss_cons nosD (js_set (i := 2) S__law_draws.nd rfl (by first | exact Or.inl rfl | exact Or.inr rfl) (je_cbT call_list_of on_list calm_list rfl T.n_list (by rfl) (ja_1 (je_v (pv 0)) ja_0)))
  (jss_cons nosD (js_if (jt_eq hu (je_pk (je_cb cr_len on_len calm_len rfl T.n_len (by rfl) (ja_1 (je_v (pv 2)) ja_0))) je_int) (jss_one (js_set (i := 2) S__law_draws.nd rfl (by first | exact Or.inl rfl | exact Or.inr rfl) (je_lst (ja_1 je_int ja_0))))
  jss_nil)
  (jss_cons nosD (js_set (i := 3) S__law_draws.nd rfl (by first | exact Or.inl rfl | exact Or.inr rfl) (je_lst ja_0))
  (jss_cons nosD (js_set (i := 4) S__law_draws.nd rfl (by first | exact Or.inl rfl | exact Or.inr rfl) je_int)
  (jss_cons nosD (js_for nosD hp rfl (ji_r1 rfl T.n_range (ja_1 (je_v (pv 1)) ja_0)) (jg_n (i := 5) S__law_draws.nd rfl (by first | exact Or.inl rfl | exact Or.inr rfl))
  (jss_cons nosD (js_set (i := 6) S__law_draws.nd rfl (by first | exact Or.inl rfl | exact Or.inr rfl) (je_mod (je_v (pv 5)) (je_pk (je_cb cr_len on_len calm_len rfl T.n_len (by rfl) (ja_1 (je_v (pv 2)) ja_0)))))
  (jss_cons nosD (js_set (i := 7) S__law_draws.nd rfl (by first | exact Or.inl rfl | exact Or.inr rfl) (je_pk (je_at (je_v (pv 2)) (je_v (pv 6)))))
  (jss_cons nosD (js_set (i := 4) S__law_draws.nd rfl (by first | exact Or.inl rfl | exact Or.inr rfl) (je_mod (je_cbT call_int1 on_int calm_int rfl T.n_int (by rfl) (ja_1 (je_add (je_add (je_add (je_mul (je_v (pv 4)) je_int) (je_mul (je_mod (je_cbT call_int1 on_int calm_int rfl T.n_int (by rfl) (ja_1 (je_v (pv 7)) ja_0)) je_int) je_int)) (je_mul (je_v (pv 5)) je_int)) je_int) ja_0)) je_int))
  (jss_cons nosD (js_set (i := 8) S__law_draws.nd rfl (by first | exact Or.inl rfl | exact Or.inr rfl) (je_mod (je_cbT call_int1 on_int calm_int rfl T.n_int (by rfl) (ja_1 (je_add (je_add (je_mul (je_v (pv 4)) (je_v (pv 4))) (je_mul je_int (je_v (pv 4)))) (je_v (pv 5))) ja_0)) je_int))
  (jss_one (js_if (jt_ge (je_v (pv 7)) (je_pow je_int je_int)) (jss_cons nosD (js_expr (je_app (pv 3) (je_mod (je_cbT call_int1 on_int calm_int rfl T.n_int (by rfl) (ja_1 (je_v (pv 7)) ja_0)) je_int)))
  (jss_one (js_setL (pv 2) (je_v (pv 6)) (je_fdiv (je_v (pv 7)) je_int))))
  (jss_one (js_expr (je_app (pv 3) (je_mod (je_cbT call_int1 on_int calm_int rfl T.n_int (by rfl) (ja_1 (je_v (pv 8)) ja_0)) je_int)))))))))))
  (jss_cons nosD (js_expr (je_rev (pv 3)))
  (jss_one (js_ret (je_m (pv 3))))))))))
theorem ok__law_take (T : Tx w K mg A) (O : Ok P w K mg base A n) : FnOk P w K mg base (L2.CX P w) (2 * n + 1 + 1) A.f__law_take A.d__law_take ["_law_draws_here", "_law_limit"] (spF ⟨K, mg⟩ 2 [0] (fn 2 [0] (b__law_take (prog n)))) :=
  fn_ok (N := N__law_take) (ts := []) T.f__law_take S__law_take (by decide) fun cdv R outer s H E hr tk hp => by
  have hu := hu65 hr
  unfold b__law_take
  exact (jss_cons nosD (js_if (jt_eq hu (je_pk (je_cb cr_len on_len calm_len rfl T.n_len (by rfl) (ja_1 (je_v (pv 0)) ja_0))) je_int) (jss_one (js_ret je_int))
  jss_nil)
  (jss_one (js_ret (je_mod (je_cbT call_int1 on_int calm_int rfl T.n_int (by rfl) (ja_1 (je_pop (pv 0)) ja_0)) (je_v (pv 1))))))
theorem ok__law_inner (T : Tx w K mg A) (O : Ok P w K mg base A n) : FnOk P w K mg base (L2.CX P w) (2 * n + 1 + 1) A.f__law_inner A.d__law_inner ["_law_statement_here"] (spF ⟨K, mg⟩ 1 [] (fn 2 [] (b__law_inner (prog n)))) :=
  fn_ok (N := N__law_inner) (ts := []) T.f__law_inner S__law_inner (by decide) fun cdv R outer s H E hr tk hp => by
  have hu := hu65 hr
  unfold b__law_inner
  exact (jss_one (js_ret (je_z (je_lc rfl S__law_inner.nd (own := [("_law_part", 1)]) (ji_seq (je_sl (je_v (pv 0)) (jp_1 je_int) jp_0)) (blkOk_by (by first | (change blkC N__law_inner (defScope s__law_inner) _ _ = true; decide +kernel) | kernel_rfl | rfl)) (fun _ _ _ _ _ => (jg_n (i := 1) S__law_inner.nd rfl (by first | exact Or.inl rfl | exact Or.inr rfl))) (fun _ _ _ _ _ => (jts_1 (jt_val (je_isi rfl T.n_isinstance rfl T.n_tuple (by rfl) (je_v (pv 1)))))) (fun _ _ _ _ _ => (je_v (pv 1)))))))
theorem ok__law_atom (T : Tx w K mg A) (O : Ok P w K mg base A n) : FnOk P w K mg base (L2.CX P w) (2 * n + 1 + 1) A.f__law_atom A.d__law_atom ["_law_draws_here", "_law_ready"] (spF ⟨K, mg⟩ 2 [0] (fn 3 [0] (b__law_atom (prog n)))) :=
  fn_ok (N := N__law_atom) (ts := [2]) T.f__law_atom S__law_atom (by decide) fun cdv R outer s H E hr tk hp => by
  have hu := hu65 hr
  unfold b__law_atom
  exact (jss_cons nosD (js_set (i := 2) S__law_atom.nd rfl (by first | exact Or.inl rfl | exact Or.inr rfl) (je_call tk O.c__law_take (hr.mono (Nat.le_succ _)) rfl T.g__law_take T.f__law_take.kp T.b__law_take (ja_io (pv 0) (ja_1 je_int ja_0))))
  (jss_cons nosD (js_if (jt_w (jw_and (jt_gt (je_cb cr_len on_len calm_len rfl T.n_len (by rfl) (ja_1 (je_v (pv 1)) ja_0)) je_int) (jw_and1 (jt_lt (je_v (pv 2)) je_int)))) (jss_one (js_ret (je_tup (ja_1 (je_str) (ja_1 (je_at (je_v (pv 1)) (je_call tk O.c__law_take (hr.mono (Nat.le_succ _)) rfl T.g__law_take T.f__law_take.kp T.b__law_take (ja_io (pv 0) (ja_1 (je_cb cr_len on_len calm_len rfl T.n_len (by rfl) (ja_1 (je_v (pv 1)) ja_0)) ja_0)))) ja_0)))))
  jss_nil)
  (jss_cons nosD (js_if (jt_eq hu (je_v (pv 2)) je_int) (jss_one (js_ret (je_at (je_z (je_lst (ja_1 (je_tup (ja_1 (je_str) ja_0)) (ja_1 (je_tup (ja_1 (je_str) ja_0)) ja_0)))) (je_call tk O.c__law_take (hr.mono (Nat.le_succ _)) rfl T.g__law_take T.f__law_take.kp T.b__law_take (ja_io (pv 0) (ja_1 je_int ja_0))))))
  jss_nil)
  (jss_one (js_ret (je_tup (ja_1 (je_at (je_z (je_lst (ja_1 (je_str) (ja_1 (je_str) ja_0)))) (je_call tk O.c__law_take (hr.mono (Nat.le_succ _)) rfl T.g__law_take T.f__law_take.kp T.b__law_take (ja_io (pv 0) (ja_1 je_int ja_0)))) (ja_1 (je_call tk O.c__law_take (hr.mono (Nat.le_succ _)) rfl T.g__law_take T.f__law_take.kp T.b__law_take (ja_io (pv 0) (ja_1 je_int ja_0))) ja_0))))))))
theorem ok__law_statement (T : Tx w K mg A) (O : Ok P w K mg base A n) : FnOk P w K mg base (L2.CX P w) (2 * n + 1 + 1) A.f__law_statement A.d__law_statement ["_law_draws_here", "_law_depth", "_law_waiting", "_law_ready", "_law_loose"] (spF ⟨K, mg⟩ 5 [0] (fn 12 [0] (b__law_statement (prog n)))) :=
  fn_ok (N := N__law_statement) (ts := [5, 6, 7, 8, 9, 11]) T.f__law_statement S__law_statement (by decide) fun cdv R outer s H E hr tk hp => by
  have hu := hu65 hr
  unfold b__law_statement
  exact (jss_cons nosD (js_set (i := 5) S__law_statement.nd rfl (by first | exact Or.inl rfl | exact Or.inr rfl) (je_call tk O.c__law_take (hr.mono (Nat.le_succ _)) rfl T.g__law_take T.f__law_take.kp T.b__law_take (ja_io (pv 0) (ja_1 je_int ja_0))))
  (jss_cons nosD (js_if (jt_w (jw_or (jt_eq hu (je_v (pv 1)) je_int) (jw_or1 (jt_eq hu (je_v (pv 5)) je_int)))) (jss_one (js_ret (je_call tk O.c__law_atom (hr.mono (Nat.le_succ _)) rfl T.g__law_atom T.f__law_atom.kp T.b__law_atom (ja_io (pv 0) (ja_1 (je_v (pv 3)) ja_0)))))
  jss_nil)
  (jss_cons nosD (js_if (jt_lt (je_v (pv 5)) je_int) (jss_cons nosD (js_set (i := 6) S__law_statement.nd rfl (by first | exact Or.inl rfl | exact Or.inr rfl) (je_call tk O.c__law_statement (hr.mono (Nat.le_succ _)) rfl T.g__law_statement T.f__law_statement.kp T.b__law_statement (ja_io (pv 0) (ja_1 (je_sub (je_v (pv 1)) je_int) (ja_1 (je_v (pv 2)) (ja_1 (je_v (pv 3)) (ja_1 (je_v (pv 4)) ja_0)))))))
  (jss_one (js_ret (je_tup (ja_1 (je_at (je_z (je_lst (ja_1 (je_str) (ja_1 (je_str) ja_0)))) (je_cbT call_int1 on_int calm_int rfl T.n_int (by rfl) (ja_1 (je_gt (je_v (pv 5)) je_int) ja_0))) (ja_1 (je_v (pv 6)) (ja_1 (je_call tk O.c__law_statement (hr.mono (Nat.le_succ _)) rfl T.g__law_statement T.f__law_statement.kp T.b__law_statement (ja_io (pv 0) (ja_1 (je_sub (je_v (pv 1)) je_int) (ja_1 (je_v (pv 2)) (ja_1 (je_v (pv 3)) (ja_1 (je_v (pv 4)) ja_0)))))) ja_0)))))))
  jss_nil)
  (jss_cons nosD (js_if (jt_lt (je_v (pv 5)) je_int) (jss_cons nosD (js_set (i := 7) S__law_statement.nd rfl (by first | exact Or.inl rfl | exact Or.inr rfl) (je_fdiv (je_call tk O.c__law_take (hr.mono (Nat.le_succ _)) rfl T.g__law_take T.f__law_take.kp T.b__law_take (ja_io (pv 0) (ja_1 je_int ja_0))) je_int))
  (jss_one (js_ret (je_tup (ja_1 (je_at (je_z (je_lst (ja_1 (je_str) (ja_1 (je_str) ja_0)))) (je_call tk O.c__law_take (hr.mono (Nat.le_succ _)) rfl T.g__law_take T.f__law_take.kp T.b__law_take (ja_io (pv 0) (ja_1 je_int ja_0)))) (ja_1 (je_v (pv 7)) (ja_1 (je_call tk O.c__law_statement (hr.mono (Nat.le_succ _)) rfl T.g__law_statement T.f__law_statement.kp T.b__law_statement (ja_io (pv 0) (ja_1 (je_sub (je_v (pv 1)) je_int) (ja_1 (je_z (je_lst ja_0)) (ja_1 (je_z (je_add (je_v (pv 3)) (je_v (pv 2)))) (ja_1 (je_v (pv 4)) ja_0)))))) ja_0)))))))
  jss_nil)
  (jss_cons nosD (js_set (i := 8) S__law_statement.nd rfl (by first | exact Or.inl rfl | exact Or.inr rfl) (je_at (je_z (je_lst (ja_1 je_int (ja_1 je_int (ja_1 je_int (ja_1 je_int ja_0)))))) (je_call tk O.c__law_take (hr.mono (Nat.le_succ _)) rfl T.g__law_take T.f__law_take.kp T.b__law_take (ja_io (pv 0) (ja_1 je_int ja_0)))))
  (jss_cons nosD (js_setLc (i := 9) rfl S__law_statement.nd rfl rfl (sw_true rfl rfl rfl (by decide +kernel)) (own := [("_law_other", 10)]) (ji_seq (je_v (pv 2))) (blkOk_by (by first | (change blkC N__law_statement (defScope s__law_statement) _ _ = true; decide +kernel) | kernel_rfl | rfl)) (fun _ _ _ _ _ => (jg_n (i := 10) S__law_statement.nd rfl (by first | exact Or.inl rfl | exact Or.inr rfl))) (fun _ _ _ _ _ => (jts_1 (jt_ne hu (je_v (pv 10)) (je_v (pv 8))))) (fun _ _ _ _ _ => (je_v (pv 10))))
  (jss_cons nosD (js_setLc (i := 11) rfl S__law_statement.nd rfl rfl (sw_true rfl rfl rfl (by decide +kernel)) (own := [("_law_other", 10)]) (ji_seq (je_v (pv 3))) (blkOk_by (by first | (change blkC N__law_statement (defScope s__law_statement) _ _ = true; decide +kernel) | kernel_rfl | rfl)) (fun _ _ _ _ _ => (jg_n (i := 10) S__law_statement.nd rfl (by first | exact Or.inl rfl | exact Or.inr rfl))) (fun _ _ _ _ _ => (jts_1 (jt_ne hu (je_v (pv 10)) (je_v (pv 8))))) (fun _ _ _ _ _ => (je_v (pv 10))))
  (jss_cons nosD (js_if (jt_w (jw_and (jt_val (je_v (pv 4))) (jw_and1 (jt_eq hu (je_call tk O.c__law_take (hr.mono (Nat.le_succ _)) rfl T.g__law_take T.f__law_take.kp T.b__law_take (ja_io (pv 0) (ja_1 je_int ja_0))) je_int)))) (jss_one (js_set (i := 11) S__law_statement.nd rfl (by first | exact Or.inl rfl | exact Or.inr rfl) (je_z (je_add (je_v (pv 11)) (je_z (je_lst (ja_1 (je_v (pv 8)) ja_0)))))))
  (jss_one (js_set (i := 9) S__law_statement.nd rfl (by first | exact Or.inl rfl | exact Or.inr rfl) (je_z (je_add (je_v (pv 9)) (je_z (je_lst (ja_1 (je_v (pv 8)) ja_0))))))))
  (jss_one (js_ret (je_tup (ja_1 (je_at (je_z (je_lst (ja_1 (je_str) (ja_1 (je_str) ja_0)))) (je_call tk O.c__law_take (hr.mono (Nat.le_succ _)) rfl T.g__law_take T.f__law_take.kp T.b__law_take (ja_io (pv 0) (ja_1 je_int ja_0)))) (ja_1 (je_v (pv 8)) (ja_1 (je_call tk O.c__law_statement (hr.mono (Nat.le_succ _)) rfl T.g__law_statement T.f__law_statement.kp T.b__law_statement (ja_io (pv 0) (ja_1 (je_sub (je_v (pv 1)) je_int) (ja_1 (je_v (pv 9)) (ja_1 (je_v (pv 11)) (ja_1 (je_v (pv 4)) ja_0)))))) ja_0))))))))))))))
theorem ok__law_closed (T : Tx w K mg A) (O : Ok P w K mg base A n) : FnOk P w K mg base (L2.CX P w) (2 * n + 1 + 1) A.f__law_closed A.d__law_closed ["_law_draws_here", "_law_depth"] (spF ⟨K, mg⟩ 2 [0] (fn 2 [0] (b__law_closed (prog n)))) :=
  fn_ok (N := N__law_closed) (ts := []) T.f__law_closed S__law_closed (by decide) fun cdv R outer s H E hr tk hp => by
  have hu := hu65 hr
  unfold b__law_closed
  exact (jss_one (js_ret (je_call tk O.c__law_statement (hr.mono (Nat.le_succ _)) rfl T.g__law_statement T.f__law_statement.kp T.b__law_statement (ja_io (pv 0) (ja_1 (je_v (pv 1)) (ja_1 (je_z (je_lst ja_0)) (ja_1 (je_z (je_lst ja_0)) (ja_1 je_bl ja_0))))))))
theorem ok__law_free (T : Tx w K mg A) (O : Ok P w K mg base A n) : FnOk P w K mg base (L2.CX P w) (2 * n + 1 + 1) A.f__law_free A.d__law_free ["_law_statement_here", "_law_bound"] (spF ⟨K, mg⟩ 2 [] (fn 4 [] (b__law_free (prog n)))) :=
  fn_ok (N := N__law_free) (ts := [2, 3]) T.f__law_free S__law_free (by decide) fun cdv R outer s H E hr tk hp => by
  have hu := hu65 hr
  unfold b__law_free
  exact (jss_cons nosD (js_if (jt_eq hu (je_at (je_v (pv 0)) je_int) (je_str)) (jss_one (js_ret (je_if (jt_nin (je_at (je_v (pv 0)) je_int) (je_v (pv 1))) (je_z (je_lst (ja_1 (je_at (je_v (pv 0)) je_int) ja_0))) (je_z (je_lst ja_0)))))
  jss_nil)
  (jss_cons nosD (js_if (jt_in (je_at (je_v (pv 0)) je_int) (je_tup (ja_1 (je_str) (ja_1 (je_str) ja_0)))) (jss_one (js_ret (je_call tk O.c__law_free (hr.mono (Nat.le_succ _)) rfl T.g__law_free T.f__law_free.kp T.b__law_free (ja_1 (je_at (je_v (pv 0)) je_int) (ja_1 (je_z (je_add (je_v (pv 1)) (je_z (je_lst (ja_1 (je_at (je_v (pv 0)) je_int) ja_0))))) ja_0)))))
  jss_nil)
  (jss_cons nosD (js_set (i := 2) S__law_free.nd rfl (by first | exact Or.inl rfl | exact Or.inr rfl) (je_z (je_lst ja_0)))
  (jss_cons nosD (js_for nosD hp rfl (ji_seq (je_call tk O.c__law_inner (hr.mono (Nat.le_succ _)) rfl T.g__law_inner T.f__law_inner.kp T.b__law_inner (ja_1 (je_v (pv 0)) ja_0))) (jg_n (i := 3) S__law_free.nd rfl (by first | exact Or.inl rfl | exact Or.inr rfl))
  (jss_one (js_set (i := 2) S__law_free.nd rfl (by first | exact Or.inl rfl | exact Or.inr rfl) (je_z (je_add (je_v (pv 2)) (je_call tk O.c__law_free (hr.mono (Nat.le_succ _)) rfl T.g__law_free T.f__law_free.kp T.b__law_free (ja_1 (je_v (pv 3)) (ja_1 (je_v (pv 1)) ja_0))))))))
  (jss_one (js_ret (je_v (pv 2))))))))
theorem ok__law_tidy_from (T : Tx w K mg A) (O : Ok P w K mg base A n) : FnOk P w K mg base (L2.CX P w) (2 * n + 1 + 1) A.f__law_tidy_from A.d__law_tidy_from ["_law_statement_here", "_law_names", "_law_number"] (spF ⟨K, mg⟩ 3 [] (fn 9 [] (b__law_tidy_from (prog n)))) :=
  fn_ok (N := N__law_tidy_from) (ts := [2, 3, 4, 5, 6, 7, 8]) T.f__law_tidy_from S__law_tidy_from (by decide) fun cdv R outer s H E hr tk hp => by
  have hu := hu65 hr
  unfold b__law_tidy_from
  exact (jss_cons nosD (js_if (jt_eq hu (je_at (je_v (pv 0)) je_int) (je_str)) (jss_one (js_ret (je_tup (ja_1 (je_tup (ja_1 (je_str) (ja_1 (je_dget (hu1 hu) (je_v (pv 1)) (je_at (je_v (pv 0)) je_int) (by intro _ _; rfl)) ja_0))) (ja_1 (je_v (pv 2)) ja_0)))))
  jss_nil)
  (jss_cons nosD (js_if (jt_in (je_at (je_v (pv 0)) je_int) (je_tup (ja_1 (je_str) (ja_1 (je_str) ja_0)))) (jss_cons nosD (js_set (i := 3) S__law_tidy_from.nd rfl (by first | exact Or.inl rfl | exact Or.inr rfl) je_d0)
  (jss_cons nosD (js_forD nosD hp rfl (pv 1) (jg_n (i := 4) S__law_tidy_from.nd rfl (by first | exact Or.inl rfl | exact Or.inr rfl)) (jss_one (js_dput (hu1 hu) (pv 3) (je_v (pv 4)) (je_dget (hu1 hu) (je_v (pv 1)) (je_v (pv 4)) (by intro _ _; rfl)))))
  (jss_cons nosD (js_dput (hu1 hu) (pv 3) (je_at (je_v (pv 0)) je_int) (je_v (pv 2)))
  (jss_cons nosD (js_asg (je_call tk O.c__law_tidy_from (hr.mono (Nat.le_succ _)) rfl T.g__law_tidy_from T.f__law_tidy_from.kp T.b__law_tidy_from (ja_1 (je_at (je_v (pv 0)) je_int) (ja_1 (je_v (pv 3)) (ja_1 (je_add (je_v (pv 2)) je_int) ja_0)))) (jg_t rfl (jgs_1 (jg_n (i := 5) S__law_tidy_from.nd rfl (by first | exact Or.inl rfl | exact Or.inr rfl)) (jgs_1 (jg_n (i := 6) S__law_tidy_from.nd rfl (by first | exact Or.inl rfl | exact Or.inr rfl)) jgs_0))))
  (jss_one (js_ret (je_tup (ja_1 (je_tup (ja_1 (je_at (je_v (pv 0)) je_int) (ja_1 (je_v (pv 2)) (ja_1 (je_v (pv 5)) ja_0)))) (ja_1 (je_v (pv 6)) ja_0)))))))))
  jss_nil)
  (jss_cons nosD (js_set (i := 7) S__law_tidy_from.nd rfl (by first | exact Or.inl rfl | exact Or.inr rfl) (je_lst ja_0))
  (jss_cons nosD (js_for nosD hp rfl (ji_seq (je_v (pv 0))) (jg_n (i := 8) S__law_tidy_from.nd rfl (by first | exact Or.inl rfl | exact Or.inr rfl))
  (jss_cons nosD (js_if (jt_val (je_isi rfl T.n_isinstance rfl T.n_tuple (by rfl) (je_v (pv 8)))) (jss_one (js_asg (je_call tk O.c__law_tidy_from (hr.mono (Nat.le_succ _)) rfl T.g__law_tidy_from T.f__law_tidy_from.kp T.b__law_tidy_from (ja_1 (je_v (pv 8)) (ja_1 (je_v (pv 1)) (ja_1 (je_v (pv 2)) ja_0)))) (jg_t rfl (jgs_1 (jg_n (i := 8) S__law_tidy_from.nd rfl (by first | exact Or.inl rfl | exact Or.inr rfl)) (jgs_1 (jg_n (i := 2) S__law_tidy_from.nd rfl (by first | exact Or.inl rfl | exact Or.inr rfl)) jgs_0)))))
  jss_nil)
  (jss_one (js_expr (je_app (pv 7) (je_v (pv 8)))))))
  (jss_one (js_ret (je_tup (ja_1 (je_cbT call_tuple_of on_tuple calm_tuple rfl T.n_tuple (by rfl) (ja_1 (je_v (pv 7)) ja_0)) (ja_1 (je_v (pv 2)) ja_0)))))))))
theorem ok__law_tidy (T : Tx w K mg A) (O : Ok P w K mg base A n) : FnOk P w K mg base (L2.CX P w) (2 * n + 1 + 1) A.f__law_tidy A.d__law_tidy ["_law_statement_here"] (spF ⟨K, mg⟩ 1 [] (fn 1 [] (b__law_tidy (prog n)))) :=
  fn_ok (N := N__law_tidy) (ts := []) T.f__law_tidy S__law_tidy (by decide) fun cdv R outer s H E hr tk hp => by
  have hu := hu65 hr
  unfold b__law_tidy
  exact (jss_one (js_ret (je_at (je_call tk O.c__law_tidy_from (hr.mono (Nat.le_succ _)) rfl T.g__law_tidy_from T.f__law_tidy_from.kp T.b__law_tidy_from (ja_1 (je_v (pv 0)) (ja_1 (je_z je_d0) (ja_1 je_int ja_0)))) je_int)))
theorem ok__law_outcome (T : Tx w K mg A) (O : Ok P w K mg base A n) : FnOk P w K mg base (L2.CX P w) (2 * n + 1 + 1) A.f__law_outcome A.d__law_outcome ["_law_statement_here"] (spF ⟨K, mg⟩ 1 [] (fn 2 [] (b__law_outcome (prog n)))) :=
  fn_ok (N := N__law_outcome) (ts := [1]) T.f__law_outcome S__law_outcome (by decide) fun cdv R outer s H E hr tk hp => by
  have hu := hu65 hr
  unfold b__law_outcome
  exact (jss_cons nosD (js_tryAs (i := 1) (caught := (fun c => if c = ("NotClosed" : Str) then some true else none)) rfl rfl S__law_outcome.nd rfl rfl ⟨rfl, by decide, .inl T.g_NotClosed⟩ tk (fun _ _ _ h1 h2 => caught_one T.g_NotClosed T.em_NotClosed h1 h2) (fun _ _ _ tk hp => (jss_one (js_ret (je_call tk O.c_tidy (hr.mono (Nat.le_succ _)) rfl T.g_tidy T.f_tidy.kp T.b_tidy (ja_1 (je_v (pv 0)) ja_0))))) (fun _ _ _ _ _ h1 h2 hz hv => by have e := caught_eq T.g_NotClosed h1 h2; subst e; exact js_ifK (b := true) (by exact (pt_andK (b1 := true) (b2 := true) (pt_isO T.xc_NotClosed hz hv (pv 1) rfl T.n_isinstance rfl T.g_FixError T.ki_NotClosed_FixError) (pt_isB T.xc_NotClosed hz hv (pv 1) rfl T.n_isinstance rfl T.n_ValueError (by rfl) T.ki_NotClosed_ValueError))) (jss_one (js_ret je_non)) jss_nil))
  (jss_one (js_ret je_int)))
theorem ok_law (T : Tx w K mg A) (O : Ok P w K mg base A n) : FnOk P w K mg base (L2.CX P w) (2 * n + 1 + 1) A.f_law A.d_law ["_law_script"] (spF ⟨K, mg⟩ 1 [] (fn 6 [] (b_law (prog n)))) :=
  fn_ok (N := N_law) (ts := [1, 2, 3, 4, 5]) T.f_law S_law (by decide) fun cdv R outer s H E hr tk hp => by
  have hu := hu65 hr
  unfold b_law
  exact (jss_cons nosD (js_set (i := 1) S_law.nd rfl (by first | exact Or.inl rfl | exact Or.inr rfl) (je_call tk O.c__law_draws (hr.mono (Nat.le_succ _)) rfl T.g__law_draws T.f__law_draws.kp T.b__law_draws (ja_1 (je_v (pv 0)) (ja_1 je_int ja_0))))
  (jss_cons nosD (js_set (i := 2) S_law.nd rfl (by first | exact Or.inl rfl | exact Or.inr rfl) (je_call tk O.c__law_closed (hr.mono (Nat.le_succ _)) rfl T.g__law_closed T.f__law_closed.kp T.b__law_closed (ja_io (pv 1) (ja_1 je_int ja_0))))
  (jss_cons nosD (js_if (jt_eq hu (je_call tk O.c__law_take (hr.mono (Nat.le_succ _)) rfl T.g__law_take T.f__law_take.kp T.b__law_take (ja_io (pv 1) (ja_1 je_int ja_0))) je_int) (jss_one (js_for nosD hp rfl (ji_r1 rfl T.n_range (ja_1 (je_call tk O.c__law_take (hr.mono (Nat.le_succ _)) rfl T.g__law_take T.f__law_take.kp T.b__law_take (ja_io (pv 1) (ja_1 je_int ja_0))) ja_0)) (jg_n (i := 3) S_law.nd rfl (by first | exact Or.inl rfl | exact Or.inr rfl))
  (jss_one (js_if (jt_in (je_at (je_v (pv 2)) je_int) (je_tup (ja_1 (je_str) (ja_1 (je_str) ja_0)))) (jss_one (js_set (i := 2) S_law.nd rfl (by first | exact Or.inl rfl | exact Or.inr rfl) (je_tup (ja_1 (je_at (je_v (pv 2)) je_int) (ja_1 (je_tup (ja_1 (je_str) (ja_1 (je_call tk O.c__law_take (hr.mono (Nat.le_succ _)) rfl T.g__law_take T.f__law_take.kp T.b__law_take (ja_io (pv 1) (ja_1 je_int ja_0))) ja_0))) (ja_1 (je_at (je_v (pv 2)) je_int) ja_0))))))
  (jss_one (js_if (jt_in (je_at (je_v (pv 2)) je_int) (je_tup (ja_1 (je_str) (ja_1 (je_str) (ja_1 (je_str) (ja_1 (je_str) ja_0)))))) (jss_one (js_set (i := 2) S_law.nd rfl (by first | exact Or.inl rfl | exact Or.inr rfl) (je_tup (ja_1 (je_at (je_v (pv 2)) je_int) (ja_1 (je_at (je_v (pv 2)) je_int) (ja_1 (je_tup (ja_1 (je_str) (ja_1 (je_at (je_v (pv 2)) je_int) (ja_1 (je_tup (ja_1 (je_str) (ja_1 (je_call tk O.c__law_take (hr.mono (Nat.le_succ _)) rfl T.g__law_take T.f__law_take.kp T.b__law_take (ja_io (pv 1) (ja_1 je_int ja_0))) ja_0))) ja_0)))) ja_0))))))
  jss_nil))))))
  jss_nil)
  (jss_cons nosD (js_set (i := 4) S_law.nd rfl (by first | exact Or.inl rfl | exact Or.inr rfl) (je_z (je_srtS rfl rfl T.n_sorted (by rfl) rfl T.n_set (by rfl) (ja_1 (je_call tk O.c__law_free (hr.mono (Nat.le_succ _)) rfl T.g__law_free T.f__law_free.kp T.b__law_free (ja_1 (je_v (pv 2)) (ja_1 (je_z (je_lst ja_0)) ja_0))) ja_0))))
  (jss_cons nosD (js_if (jt_ne hu (je_call tk O.c_free_variables (hr.mono (Nat.le_succ _)) rfl T.g_free_variables T.f_free_variables.kp T.b_free_variables (ja_1 (je_v (pv 2)) ja_0)) (je_v (pv 4))) (jss_one (js_ret je_bl))
  jss_nil)
  (jss_cons nosD (js_set (i := 5) S_law.nd rfl (by first | exact Or.inl rfl | exact Or.inr rfl) (je_call tk O.c__law_outcome (hr.mono (Nat.le_succ _)) rfl T.g__law_outcome T.f__law_outcome.kp T.b__law_outcome (ja_1 (je_v (pv 2)) ja_0)))
  (jss_cons nosD (js_if (jt_gt (je_cb cr_len on_len calm_len rfl T.n_len (by rfl) (ja_1 (je_v (pv 4)) ja_0)) je_int) (jss_one (js_ret (je_is (je_v (pv 5)) je_non)))
  jss_nil)
  (jss_one (js_ret (je_and (je_eq hu (je_v (pv 5)) (je_call tk O.c__law_tidy (hr.mono (Nat.le_succ _)) rfl T.g__law_tidy T.f__law_tidy.kp T.b__law_tidy (ja_1 (je_v (pv 2)) ja_0))) (je_one (je_eq hu (je_call tk O.c_tidy (hr.mono (Nat.le_succ _)) rfl T.g_tidy T.f_tidy.kp T.b_tidy (ja_1 (je_v (pv 5)) ja_0)) (je_v (pv 5))))))))))))))
theorem ok_all (T : Tx w K mg A) : ∀ n, Ok P w K mg base A n
  | 0 => ⟨fn_none fun _ => rfl, fn_none fun _ => rfl, fn_none fun _ => rfl, fn_none fun _ => rfl, fn_none fun _ => rfl, fn_none fun _ => rfl, fn_none fun _ => rfl, fn_none fun _ => rfl, fn_none fun _ => rfl, fn_none fun _ => rfl, fn_none fun _ => rfl, fn_none fun _ => rfl, fn_none fun _ => rfl, fn_none fun _ => rfl, fn_none fun _ => rfl, fn_none fun _ => rfl, fn_none fun _ => rfl, fn_none fun _ => rfl⟩
  | n + 1 => ⟨ok_parts_in T (ok_all T n), ok_add_free T (ok_all T n), ok_free_variables T (ok_all T n), ok_check_closed T (ok_all T n), ok_Renamer_init T (ok_all T n), ok_Renamer_renamed T (ok_all T n), ok_tidy T (ok_all T n), ok__law_draws T (ok_all T n), ok__law_take T (ok_all T n), ok__law_inner T (ok_all T n), ok__law_atom T (ok_all T n), ok__law_statement T (ok_all T n), ok__law_closed T (ok_all T n), ok__law_free T (ok_all T n), ok__law_tidy_from T (ok_all T n), ok__law_tidy T (ok_all T n), ok__law_outcome T (ok_all T n), ok_law T (ok_all T n)⟩
end
theorem all_mk {l : PySem.W.OpenLaw} {w : World} {K : PySem.W.Frag} {h : Heap} {mg : Str → Option Value} {fa : Addr} (X : K.In h) (G : h.Ns mainGlobals mg) (hfa : mg "law" = some (.ref fa))
    {f_parts_in f_add_free f_free_variables f_check_closed f_Renamer_init f_Renamer_renamed f_tidy f__law_draws f__law_take f__law_inner f__law_atom f__law_statement f__law_closed f__law_free f__law_tidy_from f__law_tidy f__law_outcome f_law c_Renamer e_NotClosed e_FixError q_BINDERS : Addr}
    {od_parts_in an_parts_in od_add_free an_add_free od_free_variables an_free_variables od_check_closed an_check_closed od_Renamer_init an_Renamer_init od_Renamer_renamed an_Renamer_renamed od_tidy an_tidy od__law_draws an__law_draws od__law_take an__law_take od__law_inner an__law_inner od__law_atom an__law_atom od__law_statement an__law_statement od__law_closed an__law_closed od__law_free an__law_free od__law_tidy_from an__law_tidy_from od__law_tidy an__law_tidy od__law_outcome an__law_outcome od_law an_law : Option Addr} {sl_parts_in sl_add_free sl_free_variables sl_check_closed sl_Renamer_init sl_Renamer_renamed sl_tidy sl__law_draws sl__law_take sl__law_inner sl__law_atom sl__law_statement sl__law_closed sl__law_free sl__law_tidy_from sl__law_tidy sl__law_outcome sl_law : Array (Option Value)} {oc_parts_in kV_parts_in dc_parts_in pm_parts_in cd_parts_in ct_parts_in oc_add_free kV_add_free dc_add_free pm_add_free cd_add_free ct_add_free oc_free_variables kV_free_variables dc_free_variables pm_free_variables cd_free_variables ct_free_variables oc_check_closed kV_check_closed dc_check_closed pm_check_closed cd_check_closed ct_check_closed oc_Renamer_init kV_Renamer_init dc_Renamer_init pm_Renamer_init cd_Renamer_init ct_Renamer_init oc_Renamer_renamed kV_Renamer_renamed dc_Renamer_renamed pm_Renamer_renamed cd_Renamer_renamed ct_Renamer_renamed oc_tidy kV_tidy dc_tidy pm_tidy cd_tidy ct_tidy oc__law_draws kV__law_draws dc__law_draws pm__law_draws cd__law_draws ct__law_draws oc__law_take kV__law_take dc__law_take pm__law_take cd__law_take ct__law_take oc__law_inner kV__law_inner dc__law_inner pm__law_inner cd__law_inner ct__law_inner oc__law_atom kV__law_atom dc__law_atom pm__law_atom cd__law_atom ct__law_atom oc__law_statement kV__law_statement dc__law_statement pm__law_statement cd__law_statement ct__law_statement oc__law_closed kV__law_closed dc__law_closed pm__law_closed cd__law_closed ct__law_closed oc__law_free kV__law_free dc__law_free pm__law_free cd__law_free ct__law_free oc__law_tidy_from kV__law_tidy_from dc__law_tidy_from pm__law_tidy_from cd__law_tidy_from ct__law_tidy_from oc__law_tidy kV__law_tidy dc__law_tidy pm__law_tidy cd__law_tidy ct__law_tidy oc__law_outcome kV__law_outcome dc__law_outcome pm__law_outcome cd__law_outcome ct__law_outcome oc_law kV_law dc_law pm_law cd_law ct_law : Value}
    (aC_Renamer : PySem.W.nsIn K mainGlobals "Renamer" = some (some (.ref c_Renamer)))
    (a_parts_in : PySem.W.nsIn K mainGlobals "parts_in" = some (some (.ref f_parts_in)))
    (l_parts_in : K.lookup f_parts_in = some ⟨oc_parts_in, od_parts_in, .func (PySem.W.fnOf "parts_in" "parts_in" (defArgs s_parts_in) (defBody s_parts_in) (defScope s_parts_in) .none kV_parts_in dc_parts_in pm_parts_in an_parts_in cd_parts_in ct_parts_in), sl_parts_in⟩)
    (cc_parts_in : PySem.W.codeIn K cd_parts_in "parts_in" = true)
    (k_parts_in : PySem.W.keepIn K (.ref f_parts_in) = true)
    (a_add_free : PySem.W.nsIn K mainGlobals "add_free" = some (some (.ref f_add_free)))
    (l_add_free : K.lookup f_add_free = some ⟨oc_add_free, od_add_free, .func (PySem.W.fnOf "add_free" "add_free" (defArgs s_add_free) (defBody s_add_free) (defScope s_add_free) .none kV_add_free dc_add_free pm_add_free an_add_free cd_add_free ct_add_free), sl_add_free⟩)
    (cc_add_free : PySem.W.codeIn K cd_add_free "add_free" = true)
    (k_add_free : PySem.W.keepIn K (.ref f_add_free) = true)
    (a_free_variables : PySem.W.nsIn K mainGlobals "free_variables" = some (some (.ref f_free_variables)))
    (l_free_variables : K.lookup f_free_variables = some ⟨oc_free_variables, od_free_variables, .func (PySem.W.fnOf "free_variables" "free_variables" (defArgs s_free_variables) (defBody s_free_variables) (defScope s_free_variables) .none kV_free_variables dc_free_variables pm_free_variables an_free_variables cd_free_variables ct_free_variables), sl_free_variables⟩)
    (cc_free_variables : PySem.W.codeIn K cd_free_variables "free_variables" = true)
    (k_free_variables : PySem.W.keepIn K (.ref f_free_variables) = true)
    (a_check_closed : PySem.W.nsIn K mainGlobals "check_closed" = some (some (.ref f_check_closed)))
    (l_check_closed : K.lookup f_check_closed = some ⟨oc_check_closed, od_check_closed, .func (PySem.W.fnOf "check_closed" "check_closed" (defArgs s_check_closed) (defBody s_check_closed) (defScope s_check_closed) .none kV_check_closed dc_check_closed pm_check_closed an_check_closed cd_check_closed ct_check_closed), sl_check_closed⟩)
    (cc_check_closed : PySem.W.codeIn K cd_check_closed "check_closed" = true)
    (k_check_closed : PySem.W.keepIn K (.ref f_check_closed) = true)
    (a_Renamer_init : PySem.W.findIn K (.ref c_Renamer) "__init__" = some (some (.ref f_Renamer_init)))
    (i_Renamer_init : PySem.W.isFn K (.ref f_Renamer_init) = true)
    (l_Renamer_init : K.lookup f_Renamer_init = some ⟨oc_Renamer_init, od_Renamer_init, .func (PySem.W.fnOf "__init__" "Renamer.__init__" (defArgs s_Renamer_init) (defBody s_Renamer_init) (defScope s_Renamer_init) .none kV_Renamer_init dc_Renamer_init pm_Renamer_init an_Renamer_init cd_Renamer_init ct_Renamer_init), sl_Renamer_init⟩)
    (cc_Renamer_init : PySem.W.codeIn K cd_Renamer_init "Renamer.__init__" = true)
    (k_Renamer_init : PySem.W.keepIn K (.ref f_Renamer_init) = true)
    (a_Renamer_renamed : PySem.W.findIn K (.ref c_Renamer) "renamed" = some (some (.ref f_Renamer_renamed)))
    (i_Renamer_renamed : PySem.W.isFn K (.ref f_Renamer_renamed) = true)
    (l_Renamer_renamed : K.lookup f_Renamer_renamed = some ⟨oc_Renamer_renamed, od_Renamer_renamed, .func (PySem.W.fnOf "renamed" "Renamer.renamed" (defArgs s_Renamer_renamed) (defBody s_Renamer_renamed) (defScope s_Renamer_renamed) .none kV_Renamer_renamed dc_Renamer_renamed pm_Renamer_renamed an_Renamer_renamed cd_Renamer_renamed ct_Renamer_renamed), sl_Renamer_renamed⟩)
    (cc_Renamer_renamed : PySem.W.codeIn K cd_Renamer_renamed "Renamer.renamed" = true)
    (k_Renamer_renamed : PySem.W.keepIn K (.ref f_Renamer_renamed) = true)
    (a_tidy : PySem.W.nsIn K mainGlobals "tidy" = some (some (.ref f_tidy)))
    (l_tidy : K.lookup f_tidy = some ⟨oc_tidy, od_tidy, .func (PySem.W.fnOf "tidy" "tidy" (defArgs s_tidy) (defBody s_tidy) (defScope s_tidy) .none kV_tidy dc_tidy pm_tidy an_tidy cd_tidy ct_tidy), sl_tidy⟩)
    (cc_tidy : PySem.W.codeIn K cd_tidy "tidy" = true)
    (k_tidy : PySem.W.keepIn K (.ref f_tidy) = true)
    (a__law_draws : PySem.W.nsIn K mainGlobals "_law_draws" = some (some (.ref f__law_draws)))
    (l__law_draws : K.lookup f__law_draws = some ⟨oc__law_draws, od__law_draws, .func (PySem.W.fnOf "_law_draws" "_law_draws" (defArgs s__law_draws) (defBody s__law_draws) (defScope s__law_draws) .none kV__law_draws dc__law_draws pm__law_draws an__law_draws cd__law_draws ct__law_draws), sl__law_draws⟩)
    (cc__law_draws : PySem.W.codeIn K cd__law_draws "_law_draws" = true)
    (k__law_draws : PySem.W.keepIn K (.ref f__law_draws) = true)
    (a__law_take : PySem.W.nsIn K mainGlobals "_law_take" = some (some (.ref f__law_take)))
    (l__law_take : K.lookup f__law_take = some ⟨oc__law_take, od__law_take, .func (PySem.W.fnOf "_law_take" "_law_take" (defArgs s__law_take) (defBody s__law_take) (defScope s__law_take) .none kV__law_take dc__law_take pm__law_take an__law_take cd__law_take ct__law_take), sl__law_take⟩)
    (cc__law_take : PySem.W.codeIn K cd__law_take "_law_take" = true)
    (k__law_take : PySem.W.keepIn K (.ref f__law_take) = true)
    (a__law_inner : PySem.W.nsIn K mainGlobals "_law_inner" = some (some (.ref f__law_inner)))
    (l__law_inner : K.lookup f__law_inner = some ⟨oc__law_inner, od__law_inner, .func (PySem.W.fnOf "_law_inner" "_law_inner" (defArgs s__law_inner) (defBody s__law_inner) (defScope s__law_inner) .none kV__law_inner dc__law_inner pm__law_inner an__law_inner cd__law_inner ct__law_inner), sl__law_inner⟩)
    (cc__law_inner : PySem.W.codeIn K cd__law_inner "_law_inner" = true)
    (k__law_inner : PySem.W.keepIn K (.ref f__law_inner) = true)
    (a__law_atom : PySem.W.nsIn K mainGlobals "_law_atom" = some (some (.ref f__law_atom)))
    (l__law_atom : K.lookup f__law_atom = some ⟨oc__law_atom, od__law_atom, .func (PySem.W.fnOf "_law_atom" "_law_atom" (defArgs s__law_atom) (defBody s__law_atom) (defScope s__law_atom) .none kV__law_atom dc__law_atom pm__law_atom an__law_atom cd__law_atom ct__law_atom), sl__law_atom⟩)
    (cc__law_atom : PySem.W.codeIn K cd__law_atom "_law_atom" = true)
    (k__law_atom : PySem.W.keepIn K (.ref f__law_atom) = true)
    (a__law_statement : PySem.W.nsIn K mainGlobals "_law_statement" = some (some (.ref f__law_statement)))
    (l__law_statement : K.lookup f__law_statement = some ⟨oc__law_statement, od__law_statement, .func (PySem.W.fnOf "_law_statement" "_law_statement" (defArgs s__law_statement) (defBody s__law_statement) (defScope s__law_statement) .none kV__law_statement dc__law_statement pm__law_statement an__law_statement cd__law_statement ct__law_statement), sl__law_statement⟩)
    (cc__law_statement : PySem.W.codeIn K cd__law_statement "_law_statement" = true)
    (k__law_statement : PySem.W.keepIn K (.ref f__law_statement) = true)
    (a__law_closed : PySem.W.nsIn K mainGlobals "_law_closed" = some (some (.ref f__law_closed)))
    (l__law_closed : K.lookup f__law_closed = some ⟨oc__law_closed, od__law_closed, .func (PySem.W.fnOf "_law_closed" "_law_closed" (defArgs s__law_closed) (defBody s__law_closed) (defScope s__law_closed) .none kV__law_closed dc__law_closed pm__law_closed an__law_closed cd__law_closed ct__law_closed), sl__law_closed⟩)
    (cc__law_closed : PySem.W.codeIn K cd__law_closed "_law_closed" = true)
    (k__law_closed : PySem.W.keepIn K (.ref f__law_closed) = true)
    (a__law_free : PySem.W.nsIn K mainGlobals "_law_free" = some (some (.ref f__law_free)))
    (l__law_free : K.lookup f__law_free = some ⟨oc__law_free, od__law_free, .func (PySem.W.fnOf "_law_free" "_law_free" (defArgs s__law_free) (defBody s__law_free) (defScope s__law_free) .none kV__law_free dc__law_free pm__law_free an__law_free cd__law_free ct__law_free), sl__law_free⟩)
    (cc__law_free : PySem.W.codeIn K cd__law_free "_law_free" = true)
    (k__law_free : PySem.W.keepIn K (.ref f__law_free) = true)
    (a__law_tidy_from : PySem.W.nsIn K mainGlobals "_law_tidy_from" = some (some (.ref f__law_tidy_from)))
    (l__law_tidy_from : K.lookup f__law_tidy_from = some ⟨oc__law_tidy_from, od__law_tidy_from, .func (PySem.W.fnOf "_law_tidy_from" "_law_tidy_from" (defArgs s__law_tidy_from) (defBody s__law_tidy_from) (defScope s__law_tidy_from) .none kV__law_tidy_from dc__law_tidy_from pm__law_tidy_from an__law_tidy_from cd__law_tidy_from ct__law_tidy_from), sl__law_tidy_from⟩)
    (cc__law_tidy_from : PySem.W.codeIn K cd__law_tidy_from "_law_tidy_from" = true)
    (k__law_tidy_from : PySem.W.keepIn K (.ref f__law_tidy_from) = true)
    (a__law_tidy : PySem.W.nsIn K mainGlobals "_law_tidy" = some (some (.ref f__law_tidy)))
    (l__law_tidy : K.lookup f__law_tidy = some ⟨oc__law_tidy, od__law_tidy, .func (PySem.W.fnOf "_law_tidy" "_law_tidy" (defArgs s__law_tidy) (defBody s__law_tidy) (defScope s__law_tidy) .none kV__law_tidy dc__law_tidy pm__law_tidy an__law_tidy cd__law_tidy ct__law_tidy), sl__law_tidy⟩)
    (cc__law_tidy : PySem.W.codeIn K cd__law_tidy "_law_tidy" = true)
    (k__law_tidy : PySem.W.keepIn K (.ref f__law_tidy) = true)
    (a__law_outcome : PySem.W.nsIn K mainGlobals "_law_outcome" = some (some (.ref f__law_outcome)))
    (l__law_outcome : K.lookup f__law_outcome = some ⟨oc__law_outcome, od__law_outcome, .func (PySem.W.fnOf "_law_outcome" "_law_outcome" (defArgs s__law_outcome) (defBody s__law_outcome) (defScope s__law_outcome) .none kV__law_outcome dc__law_outcome pm__law_outcome an__law_outcome cd__law_outcome ct__law_outcome), sl__law_outcome⟩)
    (cc__law_outcome : PySem.W.codeIn K cd__law_outcome "_law_outcome" = true)
    (k__law_outcome : PySem.W.keepIn K (.ref f__law_outcome) = true)
    (a_law : PySem.W.nsIn K mainGlobals "law" = some (some (.ref f_law)))
    (l_law : K.lookup f_law = some ⟨oc_law, od_law, .func (PySem.W.fnOf "law" "law" (defArgs s_law) (defBody s_law) (defScope s_law) .none kV_law dc_law pm_law an_law cd_law ct_law), sl_law⟩)
    (cc_law : PySem.W.codeIn K cd_law "law" = true)
    (k_law : PySem.W.keepIn K (.ref f_law) = true)
    (pg_Renamer : PySem.W.plainGet K c_Renamer Str.empty = true)
    (hd_Renamer : PySem.W.hasDictIn K c_Renamer = true)
    (po_Renamer : PySem.W.plainOver K c_Renamer = true)
    (sa_Renamer : PySem.W.findIn K (.ref c_Renamer) "__setattr__" = some (some (.builtin "object.__setattr__")))
    (mk_Renamer : PySem.W.makesIn K c_Renamer = true)
    (kc_Renamer : PySem.W.keepIn K (.ref c_Renamer) = true)
    (na_Renamer_count : PySem.W.findIn K (.ref c_Renamer) "count" = some none)
    (aE_NotClosed : PySem.W.nsIn K mainGlobals "NotClosed" = some (some (.ref e_NotClosed)))
    (xE_NotClosed : PySem.W.excIn K e_NotClosed [.type "ValueError", .type "Exception", .type "BaseException", .type "object"] "ValueError.__new__" = true)
    (kE_NotClosed : PySem.W.keepIn K (.ref e_NotClosed) = true)
    (sE_NotClosed : PySem.W.subIn K (.ref e_NotClosed) (.type "BaseException") = some true)
    (tE_NotClosed : PySem.W.typeIn K (.ref e_NotClosed) = some (.type "type"))
    (hD_NotClosed : PySem.W.hasDictIn K e_NotClosed = true)
    (ss_NotClosed : PySem.W.subIn K (.ref e_NotClosed) (.ref e_NotClosed) = some true)
    (aE_FixError : PySem.W.nsIn K mainGlobals "FixError" = some (some (.ref e_FixError)))
    (xc_NotClosed_hg : PySem.W.findIn K (.ref e_NotClosed) "__getattribute__" = some (some (.builtin "BaseException.__getattribute__")))
    (xc_NotClosed_hk : PySem.W.findIn K (.ref e_NotClosed) "__getattr__" = some none)
    (xc_NotClosed_hs : PySem.W.subIn K (.ref e_NotClosed) (.type "BaseException") = some true)
    (xc_NotClosed_hd : PySem.W.hasDictIn K e_NotClosed = true)
    (xc_NotClosed_ha : PySem.W.findIn K (.ref e_NotClosed) "__class__" = some (some (.builtin "object.__class__")))
    (xc_NotClosed_hn : PySem.W.specialIn K (.builtin "object.__class__") "__get__" = some (some (.builtin "getset_descriptor.__get__")))
    (xc_NotClosed_ht : PySem.W.takesIn K (.builtin "object.__class__") = some true)
    (xc_NotClosed_hm : PySem.W.mroIn K e_NotClosed (.type "object") = some true)
    (ki_NotClosed_FixError : PySem.W.kitOne K (.ref e_NotClosed) (.ref e_FixError) = some true)
    (ki_NotClosed_ValueError : PySem.W.kitOne K (.ref e_NotClosed) (.type "ValueError") = some true)
    (zn_ValueError : PySem.W.nsIn K mainGlobals "ValueError" = some none)
    (zn_dict : PySem.W.nsIn K mainGlobals "dict" = some none)
    (zn_int : PySem.W.nsIn K mainGlobals "int" = some none)
    (zn_isinstance : PySem.W.nsIn K mainGlobals "isinstance" = some none)
    (zn_len : PySem.W.nsIn K mainGlobals "len" = some none)
    (zn_list : PySem.W.nsIn K mainGlobals "list" = some none)
    (zn_range : PySem.W.nsIn K mainGlobals "range" = some none)
    (zn_set : PySem.W.nsIn K mainGlobals "set" = some none)
    (zn_sorted : PySem.W.nsIn K mainGlobals "sorted" = some none)
    (zn_tuple : PySem.W.nsIn K mainGlobals "tuple" = some none)
    (aK_BINDERS : PySem.W.nsIn K mainGlobals "BINDERS" = some (some (.ref q_BINDERS)))
    {dK_BINDERS : Option Addr} {sK_BINDERS : Array (Option Value)} {iK_BINDERS : Array Value} {nK_BINDERS : Nat}
    (lK_BINDERS : K.lookup q_BINDERS = some ⟨.type "tuple", dK_BINDERS, .seq iK_BINDERS nK_BINDERS, sK_BINDERS⟩)
    (zK_BINDERS : iK_BINDERS.size ≤ 1000)
    (vK_BINDERS : Vals k_BINDERS iK_BINDERS.toList)
    (hlaw : ∀ ns : List Int, ns.length ≤ 63 → ∃ os, prog 40 i_law [.val (.scr ns)] = .ok (.val (.bl true), os)) :
    ∃ fd : FuncData, (∀ (s : Shared) (v : Value), BindsTo s fd ⟨[v], []⟩ [("_law_script", v)]) ∧ ∀ base : Heap, K.In base → base.Ns mainGlobals mg → FnOk l.prog w K mg base (L2.CX l.prog w) 80 fa fd ["_law_script"] (spLaw K) := by
  have e := hfa.symm.trans (PySem.W.mg_of X G a_law)
  cases e
  have F_parts_in := fun_mk (st := s_parts_in) l_parts_in cc_parts_in k_parts_in
  have F_add_free := fun_mk (st := s_add_free) l_add_free cc_add_free k_add_free
  have F_free_variables := fun_mk (st := s_free_variables) l_free_variables cc_free_variables k_free_variables
  have F_check_closed := fun_mk (st := s_check_closed) l_check_closed cc_check_closed k_check_closed
  have F_Renamer_init := fun_mk (st := s_Renamer_init) l_Renamer_init cc_Renamer_init k_Renamer_init
  have F_Renamer_renamed := fun_mk (st := s_Renamer_renamed) l_Renamer_renamed cc_Renamer_renamed k_Renamer_renamed
  have F_tidy := fun_mk (st := s_tidy) l_tidy cc_tidy k_tidy
  have F__law_draws := fun_mk (st := s__law_draws) l__law_draws cc__law_draws k__law_draws
  have F__law_take := fun_mk (st := s__law_take) l__law_take cc__law_take k__law_take
  have F__law_inner := fun_mk (st := s__law_inner) l__law_inner cc__law_inner k__law_inner
  have F__law_atom := fun_mk (st := s__law_atom) l__law_atom cc__law_atom k__law_atom
  have F__law_statement := fun_mk (st := s__law_statement) l__law_statement cc__law_statement k__law_statement
  have F__law_closed := fun_mk (st := s__law_closed) l__law_closed cc__law_closed k__law_closed
  have F__law_free := fun_mk (st := s__law_free) l__law_free cc__law_free k__law_free
  have F__law_tidy_from := fun_mk (st := s__law_tidy_from) l__law_tidy_from cc__law_tidy_from k__law_tidy_from
  have F__law_tidy := fun_mk (st := s__law_tidy) l__law_tidy cc__law_tidy k__law_tidy
  have F__law_outcome := fun_mk (st := s__law_outcome) l__law_outcome cc__law_outcome k__law_outcome
  have F_law := fun_mk (st := s_law) l_law cc_law k_law
  have T : Tx w K mg ⟨f_parts_in, (PySem.W.fnOf "parts_in" "parts_in" (defArgs s_parts_in) (defBody s_parts_in) (defScope s_parts_in) .none kV_parts_in dc_parts_in pm_parts_in an_parts_in cd_parts_in ct_parts_in), f_add_free, (PySem.W.fnOf "add_free" "add_free" (defArgs s_add_free) (defBody s_add_free) (defScope s_add_free) .none kV_add_free dc_add_free pm_add_free an_add_free cd_add_free ct_add_free), f_free_variables, (PySem.W.fnOf "free_variables" "free_variables" (defArgs s_free_variables) (defBody s_free_variables) (defScope s_free_variables) .none kV_free_variables dc_free_variables pm_free_variables an_free_variables cd_free_variables ct_free_variables), f_check_closed, (PySem.W.fnOf "check_closed" "check_closed" (defArgs s_check_closed) (defBody s_check_closed) (defScope s_check_closed) .none kV_check_closed dc_check_closed pm_check_closed an_check_closed cd_check_closed ct_check_closed), f_Renamer_init, (PySem.W.fnOf "__init__" "Renamer.__init__" (defArgs s_Renamer_init) (defBody s_Renamer_init) (defScope s_Renamer_init) .none kV_Renamer_init dc_Renamer_init pm_Renamer_init an_Renamer_init cd_Renamer_init ct_Renamer_init), f_Renamer_renamed, (PySem.W.fnOf "renamed" "Renamer.renamed" (defArgs s_Renamer_renamed) (defBody s_Renamer_renamed) (defScope s_Renamer_renamed) .none kV_Renamer_renamed dc_Renamer_renamed pm_Renamer_renamed an_Renamer_renamed cd_Renamer_renamed ct_Renamer_renamed), f_tidy, (PySem.W.fnOf "tidy" "tidy" (defArgs s_tidy) (defBody s_tidy) (defScope s_tidy) .none kV_tidy dc_tidy pm_tidy an_tidy cd_tidy ct_tidy), f__law_draws, (PySem.W.fnOf "_law_draws" "_law_draws" (defArgs s__law_draws) (defBody s__law_draws) (defScope s__law_draws) .none kV__law_draws dc__law_draws pm__law_draws an__law_draws cd__law_draws ct__law_draws), f__law_take, (PySem.W.fnOf "_law_take" "_law_take" (defArgs s__law_take) (defBody s__law_take) (defScope s__law_take) .none kV__law_take dc__law_take pm__law_take an__law_take cd__law_take ct__law_take), f__law_inner, (PySem.W.fnOf "_law_inner" "_law_inner" (defArgs s__law_inner) (defBody s__law_inner) (defScope s__law_inner) .none kV__law_inner dc__law_inner pm__law_inner an__law_inner cd__law_inner ct__law_inner), f__law_atom, (PySem.W.fnOf "_law_atom" "_law_atom" (defArgs s__law_atom) (defBody s__law_atom) (defScope s__law_atom) .none kV__law_atom dc__law_atom pm__law_atom an__law_atom cd__law_atom ct__law_atom), f__law_statement, (PySem.W.fnOf "_law_statement" "_law_statement" (defArgs s__law_statement) (defBody s__law_statement) (defScope s__law_statement) .none kV__law_statement dc__law_statement pm__law_statement an__law_statement cd__law_statement ct__law_statement), f__law_closed, (PySem.W.fnOf "_law_closed" "_law_closed" (defArgs s__law_closed) (defBody s__law_closed) (defScope s__law_closed) .none kV__law_closed dc__law_closed pm__law_closed an__law_closed cd__law_closed ct__law_closed), f__law_free, (PySem.W.fnOf "_law_free" "_law_free" (defArgs s__law_free) (defBody s__law_free) (defScope s__law_free) .none kV__law_free dc__law_free pm__law_free an__law_free cd__law_free ct__law_free), f__law_tidy_from, (PySem.W.fnOf "_law_tidy_from" "_law_tidy_from" (defArgs s__law_tidy_from) (defBody s__law_tidy_from) (defScope s__law_tidy_from) .none kV__law_tidy_from dc__law_tidy_from pm__law_tidy_from an__law_tidy_from cd__law_tidy_from ct__law_tidy_from), f__law_tidy, (PySem.W.fnOf "_law_tidy" "_law_tidy" (defArgs s__law_tidy) (defBody s__law_tidy) (defScope s__law_tidy) .none kV__law_tidy dc__law_tidy pm__law_tidy an__law_tidy cd__law_tidy ct__law_tidy), f__law_outcome, (PySem.W.fnOf "_law_outcome" "_law_outcome" (defArgs s__law_outcome) (defBody s__law_outcome) (defScope s__law_outcome) .none kV__law_outcome dc__law_outcome pm__law_outcome an__law_outcome cd__law_outcome ct__law_outcome), fa, (PySem.W.fnOf "law" "law" (defArgs s_law) (defBody s_law) (defScope s_law) .none kV_law dc_law pm_law an_law cd_law ct_law), c_Renamer, e_NotClosed, e_FixError⟩ := {
    f_parts_in := F_parts_in
    b_parts_in := F_parts_in.binds (ps := ["statement"]) fun _ _ _ _ _ _ us hl => match us, hl with | [_], _ => rfl
    f_add_free := F_add_free
    b_add_free := F_add_free.binds (ps := ["statement", "bound", "found"]) fun _ _ _ _ _ _ us hl => match us, hl with | [_, _, _], _ => rfl
    f_free_variables := F_free_variables
    b_free_variables := F_free_variables.binds (ps := ["statement"]) fun _ _ _ _ _ _ us hl => match us, hl with | [_], _ => rfl
    f_check_closed := F_check_closed
    b_check_closed := F_check_closed.binds (ps := ["statement"]) fun _ _ _ _ _ _ us hl => match us, hl with | [_], _ => rfl
    f_Renamer_init := F_Renamer_init
    b_Renamer_init := F_Renamer_init.binds (ps := ["self"]) fun _ _ _ _ _ _ us hl => match us, hl with | [_], _ => rfl
    f_Renamer_renamed := F_Renamer_renamed
    b_Renamer_renamed := F_Renamer_renamed.binds (ps := ["self", "statement", "names"]) fun _ _ _ _ _ _ us hl => match us, hl with | [_, _, _], _ => rfl
    f_tidy := F_tidy
    b_tidy := F_tidy.binds (ps := ["statement"]) fun _ _ _ _ _ _ us hl => match us, hl with | [_], _ => rfl
    f__law_draws := F__law_draws
    b__law_draws := F__law_draws.binds (ps := ["_law_script", "_law_count"]) fun _ _ _ _ _ _ us hl => match us, hl with | [_, _], _ => rfl
    f__law_take := F__law_take
    b__law_take := F__law_take.binds (ps := ["_law_draws_here", "_law_limit"]) fun _ _ _ _ _ _ us hl => match us, hl with | [_, _], _ => rfl
    f__law_inner := F__law_inner
    b__law_inner := F__law_inner.binds (ps := ["_law_statement_here"]) fun _ _ _ _ _ _ us hl => match us, hl with | [_], _ => rfl
    f__law_atom := F__law_atom
    b__law_atom := F__law_atom.binds (ps := ["_law_draws_here", "_law_ready"]) fun _ _ _ _ _ _ us hl => match us, hl with | [_, _], _ => rfl
    f__law_statement := F__law_statement
    b__law_statement := F__law_statement.binds (ps := ["_law_draws_here", "_law_depth", "_law_waiting", "_law_ready", "_law_loose"]) fun _ _ _ _ _ _ us hl => match us, hl with | [_, _, _, _, _], _ => rfl
    f__law_closed := F__law_closed
    b__law_closed := F__law_closed.binds (ps := ["_law_draws_here", "_law_depth"]) fun _ _ _ _ _ _ us hl => match us, hl with | [_, _], _ => rfl
    f__law_free := F__law_free
    b__law_free := F__law_free.binds (ps := ["_law_statement_here", "_law_bound"]) fun _ _ _ _ _ _ us hl => match us, hl with | [_, _], _ => rfl
    f__law_tidy_from := F__law_tidy_from
    b__law_tidy_from := F__law_tidy_from.binds (ps := ["_law_statement_here", "_law_names", "_law_number"]) fun _ _ _ _ _ _ us hl => match us, hl with | [_, _, _], _ => rfl
    f__law_tidy := F__law_tidy
    b__law_tidy := F__law_tidy.binds (ps := ["_law_statement_here"]) fun _ _ _ _ _ _ us hl => match us, hl with | [_], _ => rfl
    f__law_outcome := F__law_outcome
    b__law_outcome := F__law_outcome.binds (ps := ["_law_statement_here"]) fun _ _ _ _ _ _ us hl => match us, hl with | [_], _ => rfl
    f_law := F_law
    b_law := F_law.binds (ps := ["_law_script"]) fun _ _ _ _ _ _ us hl => match us, hl with | [_], _ => rfl
    g_parts_in := PySem.W.mg_of X G a_parts_in
    g_add_free := PySem.W.mg_of X G a_add_free
    g_free_variables := PySem.W.mg_of X G a_free_variables
    g_check_closed := PySem.W.mg_of X G a_check_closed
    g_tidy := PySem.W.mg_of X G a_tidy
    g__law_draws := PySem.W.mg_of X G a__law_draws
    g__law_take := PySem.W.mg_of X G a__law_take
    g__law_inner := PySem.W.mg_of X G a__law_inner
    g__law_atom := PySem.W.mg_of X G a__law_atom
    g__law_statement := PySem.W.mg_of X G a__law_statement
    g__law_closed := PySem.W.mg_of X G a__law_closed
    g__law_free := PySem.W.mg_of X G a__law_free
    g__law_tidy_from := PySem.W.mg_of X G a__law_tidy_from
    g__law_tidy := PySem.W.mg_of X G a__law_tidy
    g__law_outcome := PySem.W.mg_of X G a__law_outcome
    g_law := PySem.W.mg_of X G a_law
    g_Renamer := PySem.W.mg_of X G aC_Renamer
    cl_Renamer := ⟨pg_Renamer, hd_Renamer, po_Renamer, sa_Renamer⟩
    mk_Renamer := ⟨mk_Renamer, a_Renamer_init, i_Renamer_init, kc_Renamer⟩
    m_Renamer_renamed := ⟨a_Renamer_renamed, i_Renamer_renamed, k_Renamer_renamed⟩
    na_Renamer_count := na_Renamer_count
    g_NotClosed := PySem.W.mg_of X G aE_NotClosed
    x_NotClosed := xE_NotClosed
    kp_NotClosed := kE_NotClosed
    sb_NotClosed := sE_NotClosed
    ty_NotClosed := tE_NotClosed
    em_NotClosed := PySem.W.exm_ref sE_NotClosed hD_NotClosed tE_NotClosed ss_NotClosed
    g_FixError := PySem.W.mg_of X G aE_FixError
    xc_NotClosed := ⟨xc_NotClosed_hg, xc_NotClosed_hk, xc_NotClosed_hs, xc_NotClosed_hd, xc_NotClosed_ha, xc_NotClosed_hn, xc_NotClosed_ht, xc_NotClosed_hm⟩
    ki_NotClosed_FixError := ki_NotClosed_FixError
    ki_NotClosed_ValueError := ki_NotClosed_ValueError
    n_ValueError := PySem.W.mg_none_of X G zn_ValueError
    n_dict := PySem.W.mg_none_of X G zn_dict
    n_int := PySem.W.mg_none_of X G zn_int
    n_isinstance := PySem.W.mg_none_of X G zn_isinstance
    n_len := PySem.W.mg_none_of X G zn_len
    n_list := PySem.W.mg_none_of X G zn_list
    n_range := PySem.W.mg_none_of X G zn_range
    n_set := PySem.W.mg_none_of X G zn_set
    n_sorted := PySem.W.mg_none_of X G zn_sorted
    n_tuple := PySem.W.mg_none_of X G zn_tuple
    k_BINDERS := ⟨q_BINDERS, PySem.W.mg_of X G aK_BINDERS, gt_of lK_BINDERS zK_BINDERS vK_BINDERS⟩
  }
  refine ⟨(PySem.W.fnOf "law" "law" (defArgs s_law) (defBody s_law) (defScope s_law) .none kV_law dc_law pm_law an_law cd_law ct_law), fun s v => .of_eq rfl, fun base _ _ => ?_⟩
  exact ((ok_all T 40).c_law).imp (spLaw_of (mg := ⟨K, mg⟩) hlaw)
theorem walk {l : PySem.W.OpenLaw} {q : Program} {loose : List Str} {XP : (Str → Option Value) → Heap → Prop} {YP : World → Heap → Prop} {d : DefRec} {K : Params → PySem.W.Frag} (hn : l.most = some 63) (hdf : d.params.defaults = [])
    (hY : ∀ (w : World) (h : Heap), YP w h → (K w.params).In h)
    (F : ∀ (w : World) (mg : Str → Option Value) (fa : Addr) (h : Heap), (K w.params).In h → h.Ns mainGlobals mg → mg d.name = some (.ref fa) →
      ∃ fd : FuncData, (∀ (s : Shared) (u : Value), BindsTo s fd ⟨[u], []⟩ [("_law_script", u)]) ∧ ∀ base : Heap, (K w.params).In base → base.Ns mainGlobals mg → FnOk l.prog w (K w.params) mg base (L2.CX l.prog w) 80 fa fd ["_law_script"] (spLaw (K w.params))) :
    PySem.W.WalkO q loose XP YP l.row.toRowW d [] (fun f vs => PySem.call f vs) :=
  L2.walk_of (n := 63) (k := 80) (x := "_law_script") (CX := fun w => L2.CX l.prog w) (sp := fun w => spLaw (K w.params)) hn (by decide) hdf ⟨rfl, by decide, by decide⟩ hY F (fun _ _ a ns hl _ hS => ⟨a, ns, rfl, hS, hl, fun _ => rfl⟩) fun _ _ _ _ _ ⟨_, _, _, _, _, _, _, _, _, _, _, _, z⟩ => z
end L01

open PySem PySem.W PyProof.Rows in
set_option maxRecDepth 100000 in
set_option maxHeartbeats 0 in
theorem PySem.Challenge.cw_fixworlds_k01_names_holds : PySem.Challenge.rw_fixworlds_k01_names.Holds := by
  w_on; o_law; k_head; (case hw => w_witness2)
  k_fill
  refine L01.walk (l := PySem.Challenge.rw_fixworlds_k01_names) rfl rfl (fun w h Y => PySem.W.kIn_of Y) ?F
  case F =>
    intro w mg fa h KX G hmg
    refine' L01.all_mk KX G hmg ?aC_Renamer ?a_parts_in ?l_parts_in ?cc_parts_in ?k_parts_in ?a_add_free ?l_add_free ?cc_add_free ?k_add_free ?a_free_variables ?l_free_variables ?cc_free_variables ?k_free_variables ?a_check_closed ?l_check_closed ?cc_check_closed ?k_check_closed ?a_Renamer_init ?i_Renamer_init ?l_Renamer_init ?cc_Renamer_init ?k_Renamer_init ?a_Renamer_renamed ?i_Renamer_renamed ?l_Renamer_renamed ?cc_Renamer_renamed ?k_Renamer_renamed ?a_tidy ?l_tidy ?cc_tidy ?k_tidy ?a__law_draws ?l__law_draws ?cc__law_draws ?k__law_draws ?a__law_take ?l__law_take ?cc__law_take ?k__law_take ?a__law_inner ?l__law_inner ?cc__law_inner ?k__law_inner ?a__law_atom ?l__law_atom ?cc__law_atom ?k__law_atom ?a__law_statement ?l__law_statement ?cc__law_statement ?k__law_statement ?a__law_closed ?l__law_closed ?cc__law_closed ?k__law_closed ?a__law_free ?l__law_free ?cc__law_free ?k__law_free ?a__law_tidy_from ?l__law_tidy_from ?cc__law_tidy_from ?k__law_tidy_from ?a__law_tidy ?l__law_tidy ?cc__law_tidy ?k__law_tidy ?a__law_outcome ?l__law_outcome ?cc__law_outcome ?k__law_outcome ?a_law ?l_law ?cc_law ?k_law ?pg_Renamer ?hd_Renamer ?po_Renamer ?sa_Renamer ?mk_Renamer ?kc_Renamer ?na_Renamer_count ?aE_NotClosed ?xE_NotClosed ?kE_NotClosed ?sE_NotClosed ?tE_NotClosed ?hD_NotClosed ?ss_NotClosed ?aE_FixError ?xc_NotClosed_hg ?xc_NotClosed_hk ?xc_NotClosed_hs ?xc_NotClosed_hd ?xc_NotClosed_ha ?xc_NotClosed_hn ?xc_NotClosed_ht ?xc_NotClosed_hm ?ki_NotClosed_FixError ?ki_NotClosed_ValueError ?zn_ValueError ?zn_dict ?zn_int ?zn_isinstance ?zn_len ?zn_list ?zn_range ?zn_set ?zn_sorted ?zn_tuple ?aK_BINDERS ?lK_BINDERS ?zK_BINDERS ?vK_BINDERS ?hlaw
    (case aC_Renamer => k_is)
    (case a_parts_in => k_is)
    (case l_parts_in => k_is)
    (case cc_parts_in => k_is)
    (case k_parts_in => k_is)
    (case a_add_free => k_is)
    (case l_add_free => k_is)
    (case cc_add_free => k_is)
    (case k_add_free => k_is)
    (case a_free_variables => k_is)
    (case l_free_variables => k_is)
    (case cc_free_variables => k_is)
    (case k_free_variables => k_is)
    (case a_check_closed => k_is)
    (case l_check_closed => k_is)
    (case cc_check_closed => k_is)
    (case k_check_closed => k_is)
    (case a_Renamer_init => k_is)
    (case i_Renamer_init => k_is)
    (case l_Renamer_init => k_is)
    (case cc_Renamer_init => k_is)
    (case k_Renamer_init => k_is)
    (case a_Renamer_renamed => k_is)
    (case i_Renamer_renamed => k_is)
    (case l_Renamer_renamed => k_is)
    (case cc_Renamer_renamed => k_is)
    (case k_Renamer_renamed => k_is)
    (case a_tidy => k_is)
    (case l_tidy => k_is)
    (case cc_tidy => k_is)
    (case k_tidy => k_is)
    (case a__law_draws => k_is)
    (case l__law_draws => k_is)
    (case cc__law_draws => k_is)
    (case k__law_draws => k_is)
    (case a__law_take => k_is)
    (case l__law_take => k_is)
    (case cc__law_take => k_is)
    (case k__law_take => k_is)
    (case a__law_inner => k_is)
    (case l__law_inner => k_is)
    (case cc__law_inner => k_is)
    (case k__law_inner => k_is)
    (case a__law_atom => k_is)
    (case l__law_atom => k_is)
    (case cc__law_atom => k_is)
    (case k__law_atom => k_is)
    (case a__law_statement => k_is)
    (case l__law_statement => k_is)
    (case cc__law_statement => k_is)
    (case k__law_statement => k_is)
    (case a__law_closed => k_is)
    (case l__law_closed => k_is)
    (case cc__law_closed => k_is)
    (case k__law_closed => k_is)
    (case a__law_free => k_is)
    (case l__law_free => k_is)
    (case cc__law_free => k_is)
    (case k__law_free => k_is)
    (case a__law_tidy_from => k_is)
    (case l__law_tidy_from => k_is)
    (case cc__law_tidy_from => k_is)
    (case k__law_tidy_from => k_is)
    (case a__law_tidy => k_is)
    (case l__law_tidy => k_is)
    (case cc__law_tidy => k_is)
    (case k__law_tidy => k_is)
    (case a__law_outcome => k_is)
    (case l__law_outcome => k_is)
    (case cc__law_outcome => k_is)
    (case k__law_outcome => k_is)
    (case a_law => k_is)
    (case l_law => k_is)
    (case cc_law => k_is)
    (case k_law => k_is)
    (case pg_Renamer => k_is)
    (case hd_Renamer => k_is)
    (case po_Renamer => k_is)
    (case sa_Renamer => k_is)
    (case mk_Renamer => k_is)
    (case kc_Renamer => k_is)
    (case na_Renamer_count => k_is)
    (case aE_NotClosed => k_is)
    (case xE_NotClosed => k_exc)
    (case kE_NotClosed => k_is)
    (case sE_NotClosed => k_is)
    (case tE_NotClosed => k_is)
    (case hD_NotClosed => k_is)
    (case ss_NotClosed => first | rfl | k_is)
    (case aE_FixError => k_is)
    (case xc_NotClosed_hg => k_is)
    (case xc_NotClosed_hk => k_is)
    (case xc_NotClosed_hs => k_is)
    (case xc_NotClosed_hd => k_is)
    (case xc_NotClosed_ha => k_is)
    (case xc_NotClosed_hn => k_is)
    (case xc_NotClosed_ht => k_is)
    (case xc_NotClosed_hm => k_is)
    (case ki_NotClosed_FixError => kit_is)
    (case ki_NotClosed_ValueError => kit_is)
    (case zn_ValueError => k_is)
    (case zn_dict => k_is)
    (case zn_int => k_is)
    (case zn_isinstance => k_is)
    (case zn_len => k_is)
    (case zn_list => k_is)
    (case zn_range => k_is)
    (case zn_set => k_is)
    (case zn_sorted => k_is)
    (case zn_tuple => k_is)
    (case aK_BINDERS => k_is)
    (case lK_BINDERS => k_is)
    (case zK_BINDERS => decide)
    (case vK_BINDERS => exact .cons ⟨_, rfl⟩ (.cons ⟨_, rfl⟩ (.nil)))
    (case hlaw => exact L01.law_true)
