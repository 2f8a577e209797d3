import PyProof.Rows.All
import Wide.All
import OpenK.AllK
import Wide.FinOn
import HandS.ForMost
import HandS.Evl
import HandS.Walk
import HandS.Style
import HandS.IsInst
import HandS.TupAny
import KE.GoesEnum
import PySem.Challenge.RW_oncecounted_k19_sightings_pin_losses
set_option Elab.async false
set_option linter.all false
set_option maxRecDepth 100000
set_option maxHeartbeats 2000000
/-! Z1: shapes, environments, owned cells, judgements. -/
namespace ZZ
open PySem PySem.Spec PyProof.Rows L2
open Evl (Ex)

/-! ### shapes: what a value is, over a heap that only grows -/
structure Sh where
  p : Hp → V → Prop
  mono : ∀ {B B' : Hp} {v : V}, Ex B B' → p B v → p B' v
def Sc (v : V) : Sh := ⟨fun _ u => u = v, fun _ h => h⟩
abbrev I (i : Int) : Sh := Sc (.int i)
abbrev Bo (b : Bool) : Sh := Sc (.bl b)
abbrev No : Sh := Sc .non
abbrev Tx (s : Str) : Sh := Sc (.str s)
inductive All2 {α β : Type} (R : α → β → Prop) : List α → List β → Prop
  | nil : All2 R [] []
  | cons {a b l m} : R a b → All2 R l m → All2 R (a :: l) (b :: m)
theorem All2.mp {α β : Type} {R S : α → β → Prop} (f : ∀ a b, R a b → S a b) : ∀ {l : List α} {m : List β}, All2 R l m → All2 S l m
  | _, _, .nil => .nil
  | _, _, .cons h t => .cons (f _ _ h) (t.mp f)
theorem All2.len {α β : Type} {R : α → β → Prop} : ∀ {l : List α} {m : List β}, All2 R l m → l.length = m.length
  | _, _, .nil => rfl
  | _, _, .cons _ t => by simp [t.len]
theorem All2.get {α β : Type} {R : α → β → Prop} : ∀ {l : List α} {m : List β} {i : Nat} {b : β}, All2 R l m → m[i]? = some b → ∃ a, l[i]? = some a ∧ R a b
  | _, _, _, _, .nil, e => by simp at e
  | _, _, 0, _, .cons h _, e => by simp at e; subst e; exact ⟨_, rfl, h⟩
  | _, _, i + 1, _, .cons _ t, e => by
    obtain ⟨a, h1, h2⟩ := All2.get (i := i) t (by simpa using e)
    exact ⟨a, by simpa using h1, h2⟩
theorem All2.get' {α β : Type} {R : α → β → Prop} : ∀ {l : List α} {m : List β} {i : Nat} {a : α}, All2 R l m → l[i]? = some a → ∃ b, m[i]? = some b ∧ R a b
  | _, _, _, _, .nil, e => by simp at e
  | _, _, 0, _, .cons h _, e => by simp at e; subst e; exact ⟨_, rfl, h⟩
  | _, _, i + 1, _, .cons _ t, e => by
    obtain ⟨a, h1, h2⟩ := All2.get' (i := i) t (by simpa using e)
    exact ⟨a, by simpa using h1, h2⟩
theorem All2.append {α β : Type} {R : α → β → Prop} : ∀ {l l' : List α} {m m' : List β}, All2 R l m → All2 R l' m' → All2 R (l ++ l') (m ++ m')
  | _, _, _, _, .nil, h => h
  | _, _, _, _, .cons h t, h' => .cons h (t.append h')
theorem All2.take {α β : Type} {R : α → β → Prop} : ∀ {l : List α} {m : List β} (n : Nat), All2 R l m → All2 R (l.take n) (m.take n)
  | _, _, 0, _ => by simp; exact .nil
  | _, _, _ + 1, .nil => .nil
  | _, _, n + 1, .cons h t => .cons h (t.take n)
theorem All2.drop {α β : Type} {R : α → β → Prop} : ∀ {l : List α} {m : List β} (n : Nat), All2 R l m → All2 R (l.drop n) (m.drop n)
  | _, _, 0, h => h
  | _, _, _ + 1, .nil => .nil
  | _, _, n + 1, .cons _ t => t.drop n
theorem All2.set {α β : Type} {R : α → β → Prop} {a : α} {b : β} (r : R a b) : ∀ {l : List α} {m : List β} (i : Nat), All2 R l m → All2 R (l.set i a) (m.set i b)
  | _, _, _, .nil => .nil
  | _, _, 0, .cons _ t => .cons r t
  | _, _, i + 1, .cons h t => .cons h (All2.set r i t)
theorem All2.map_r {α β γ : Type} {R : α → β → Prop} {f : γ → β} : ∀ {l : List α} {m : List γ}, All2 (fun a c => R a (f c)) l m → All2 R l (m.map f)
  | _, _, .nil => .nil
  | _, _, .cons h t => .cons h t.map_r
theorem All2.of_map {α β γ : Type} {R : α → β → Prop} {f : γ → β} : ∀ {l : List α} {m : List γ}, All2 R l (m.map f) → All2 (fun a c => R a (f c)) l m
  | [], [], _ => .nil
  | _ :: _, _ :: _, .cons h t => .cons h (All2.of_map t)

/-- a list, a tuple, all of whose items are of one kind -/
def Sq (b : Bool) {α : Type} (R : α → Sh) (xs : List α) : Sh :=
  ⟨fun B u => ∃ a vs, u = .ref a ∧ B a = some (if b then .lst vs else .tup vs) ∧ All2 (fun v x => (R x).p B v) vs xs,
   fun e h => let ⟨a, vs, h1, h2, h3⟩ := h; ⟨a, vs, h1, e a _ h2, h3.mp fun _ _ q => (R _).mono e q⟩⟩
abbrev L {α : Type} (R : α → Sh) (xs : List α) : Sh := Sq true R xs
/-- a tuple of told shapes -/
def U (ss : List Sh) : Sh :=
  ⟨fun B u => ∃ a vs, u = .ref a ∧ B a = some (.tup vs) ∧ All2 (fun v (s : Sh) => s.p B v) vs ss,
   fun e h => let ⟨a, vs, h1, h2, h3⟩ := h; ⟨a, vs, h1, e a _ h2, h3.mp fun _ s q => s.mono e q⟩⟩
/-- some x with P x -/
def Es {α : Type} (P : α → Prop) (R : α → Sh) : Sh := ⟨fun B u => ∃ x, P x ∧ (R x).p B u, fun e h => let ⟨x, h1, h2⟩ := h; ⟨x, h1, (R x).mono e h2⟩⟩
/-- the very address -/
abbrev At (a : Addr) : Sh := Sc (.ref a)
/-- at most as wide -/
def Sle (S T : Sh) : Prop := ∀ B v, S.p B v → T.p B v
theorem Sle.refl {S : Sh} : Sle S S := fun _ _ h => h
theorem Sle.es {α : Type} {P : α → Prop} {R : α → Sh} {x : α} (h : P x) : Sle (R x) (Es P R) := fun _ _ q => ⟨x, h, q⟩

/-! ### environments -/
abbrev En := List (Str × Option Sh)
def EnvOk : En → L2.St → Hp → Prop
  | [], [], _ => True
  | (_, none) :: Γ, _ :: σ, B => EnvOk Γ σ B
  | (_, some S) :: Γ, o :: σ, B => (∃ v, o = some v ∧ S.p B v) ∧ EnvOk Γ σ B
  | _, _, _ => False
theorem EnvOk.mono : ∀ {Γ : En} {σ : L2.St} {B B' : Hp}, Ex B B' → EnvOk Γ σ B → EnvOk Γ σ B'
  | [], [], _, _, _, _ => trivial
  | (_, none) :: Γ, _ :: σ, _, _, e, h => EnvOk.mono (Γ := Γ) (σ := σ) e h
  | (_, some S) :: Γ, o :: σ, _, _, e, h => ⟨let ⟨v, h1, h2⟩ := h.1; ⟨v, h1, S.mono e h2⟩, EnvOk.mono (Γ := Γ) (σ := σ) e h.2⟩
  | [], _ :: _, _, _, _, h => h.elim
  | (_, none) :: _, [], _, _, _, h => h.elim
  | (_, some _) :: _, [], _, _, _, h => h.elim
inductive Has : En → Str → Sh → Prop
  | z {Γ x S} : Has ((x, some S) :: Γ) x S
  | s {Γ e x S} : Has Γ x S → Has (e :: Γ) x S
theorem Has.get : ∀ {Γ : En} {x : Str} {S : Sh} {σ : L2.St} {B : Hp}, Has Γ x S → EnvOk Γ σ B → ∃ (i : Nat) (v : V), (Γ.map (·.1))[i]? = some x ∧ σ[i]? = some (some v) ∧ S.p B v
  | _, _, _, [], _, .z, h => h.elim
  | _, _, _, o :: σ, _, .z, h => by
    obtain ⟨⟨v, h1, h2⟩, _⟩ := h
    exact ⟨0, v, rfl, by simp [h1], h2⟩
  | (y, none) :: Γ, x, S, o :: σ, B, .s hh, h => by
    obtain ⟨i, v, h1, h2, h3⟩ := Has.get (σ := σ) hh h
    exact ⟨i + 1, v, by simpa using h1, by simpa using h2, h3⟩
  | (y, some T) :: Γ, x, S, o :: σ, B, .s hh, h => by
    obtain ⟨i, v, h1, h2, h3⟩ := Has.get (σ := σ) hh h.2
    exact ⟨i + 1, v, by simpa using h1, by simpa using h2, h3⟩
  | (_, none) :: _, _, _, [], _, .s _, h => h.elim
  | (_, some _) :: _, _, _, [], _, .s _, h => h.elim
inductive Put : En → Str → Option Sh → En → Prop
  | z {Γ x o o'} : Put ((x, o) :: Γ) x o' ((x, o') :: Γ)
  | s {Γ e x o Γ'} : Put Γ x o Γ' → Put (e :: Γ) x o (e :: Γ')
theorem Put.names : ∀ {Γ Γ' : En} {x : Str} {o : Option Sh}, Put Γ x o Γ' → Γ'.map (·.1) = Γ.map (·.1)
  | _, _, _, _, .z => rfl
  | _, _, _, _, .s h => by simp [h.names]
theorem Put.set : ∀ {Γ Γ' : En} {x : Str} {S : Sh}, Put Γ x (some S) Γ' → ∃ i : Nat, (Γ.map (·.1))[i]? = some x ∧ ∀ (σ : L2.St) (B : Hp) (v : V), EnvOk Γ σ B → S.p B v → EnvOk Γ' (σ.set i (some v)) B
  | _, _, _, S, .z (Γ := Γ) (x := x) (o := o) => by
    refine ⟨0, rfl, fun σ B v h q => ?_⟩
    cases σ with
    | nil => cases o <;> exact h.elim
    | cons a σ =>
      refine ⟨⟨v, rfl, q⟩, ?_⟩
      cases o with
      | none => exact h
      | some T => exact h.2
  | _, _, _, S, .s (e := e) hp => by
    obtain ⟨i, h1, h2⟩ := Put.set hp
    refine ⟨i + 1, by simpa using h1, fun σ B v h q => ?_⟩
    obtain ⟨y, o⟩ := e
    cases σ with
    | nil => cases o <;> exact h.elim
    | cons a σ =>
      cases o with
      | none => exact h2 σ B v h q
      | some T => exact ⟨h.1, h2 σ B v h.2 q⟩
theorem Put.ix : ∀ {Γ Γ' : En} {x : Str} {o : Option Sh}, Put Γ x o Γ' → ∃ i : Nat, (Γ.map (·.1))[i]? = some x
  | _, _, _, _, .z => ⟨0, rfl⟩
  | _, _, _, _, .s h => let ⟨i, e⟩ := h.ix; ⟨i + 1, by simpa using e⟩
/-- forgetting -/
inductive Fg : En → En → Prop
  | nil : Fg [] []
  | drop {Γ Γ' x o} : Fg Γ Γ' → Fg ((x, o) :: Γ) ((x, none) :: Γ')
  | keep {Γ Γ' x o o'} : o = o' → Fg Γ Γ' → Fg ((x, o) :: Γ) ((x, o') :: Γ')
  | wide {Γ Γ' x S T} : Sle S T → Fg Γ Γ' → Fg ((x, some S) :: Γ) ((x, some T) :: Γ')
theorem Fg.names : ∀ {Γ Γ' : En}, Fg Γ Γ' → Γ'.map (·.1) = Γ.map (·.1)
  | _, _, .nil => rfl
  | _, _, .drop h => by simp [h.names]
  | _, _, .keep _ h => by simp [h.names]
  | _, _, .wide _ h => by simp [h.names]
theorem Fg.env : ∀ {Γ Γ' : En} {σ : L2.St} {B : Hp}, Fg Γ Γ' → EnvOk Γ σ B → EnvOk Γ' σ B
  | _, _, [], _, .nil, h => h
  | _, _, _ :: _, _, .nil, h => h.elim
  | (_, none) :: _, _, _ :: σ, _, .drop f, h => f.env (σ := σ) h
  | (_, some _) :: _, _, _ :: σ, _, .drop f, h => f.env (σ := σ) h.2
  | (_, none) :: _, _, _ :: σ, _, .keep e f, h => by subst e; exact f.env (σ := σ) h
  | (_, some _) :: _, _, _ :: σ, _, .keep e f, h => by subst e; exact ⟨h.1, f.env (σ := σ) h.2⟩
  | (_, some _) :: _, _, _ :: σ, _, .wide e f, h => ⟨let ⟨v, h1, h2⟩ := h.1; ⟨v, h1, e _ _ h2⟩, f.env (σ := σ) h.2⟩
  | (_, none) :: _, _, [], _, .drop _, h => h.elim
  | (_, some _) :: _, _, [], _, .drop _, h => h.elim
  | (_, none) :: _, _, [], _, .keep _ _, h => h.elim
  | (_, some _) :: _, _, [], _, .keep _ _, h => h.elim
  | (_, some _) :: _, _, [], _, .wide _ _, h => h.elim

/-! ### owned cells -/
structure Co where
  p : Hp → HO → Prop
  mono : ∀ {B B' : Hp} {o : HO}, Ex B B' → p B o → p B' o
/-- a list of the items xs -/
def Cl {α : Type} (R : α → Sh) (xs : List α) : Co := ⟨fun B o => ∃ vs, o = .lst vs ∧ All2 (fun v x => (R x).p B v) vs xs, fun e h => let ⟨vs, h1, h2⟩ := h; ⟨vs, h1, h2.mp fun _ _ q => (R _).mono e q⟩⟩
abbrev Ws := List (Addr × Co)
structure Own (F : Hp) (ω : Ws) (B H : Hp) : Prop where
  nd : (ω.map (·.1)).Nodup
  ow : ∀ l C, (l, C) ∈ ω → B l = none ∧ F l = none ∧ ∃ o, H l = some o ∧ C.p B o
  fr : ∀ a, a ∉ ω.map (·.1) → (B a = none ∨ F a = none) ∧ H a = (B a).or (F a)
inductive Swp : Ws → Addr → Co → Co → Ws → Prop
  | z {ω l C C'} : Swp ((l, C) :: ω) l C C' ((l, C') :: ω)
  | s {ω e l C C' ω'} : Swp ω l C C' ω' → Swp (e :: ω) l C C' (e :: ω')
inductive Tak : Ws → Addr → Co → Ws → Prop
  | z {ω l C} : Tak ((l, C) :: ω) l C ω
  | s {ω e l C ω'} : Tak ω l C ω' → Tak (e :: ω) l C (e :: ω')
section
variable {F B H B' H' : Hp} {ω ω' : Ws} {l p : Addr} {C C' : Co} {o : HO}
theorem mem_addr {l : Addr} {C : Co} {ω : Ws} (h : (l, C) ∈ ω) : l ∈ ω.map (·.1) := List.mem_map.mpr ⟨_, h, rfl⟩
theorem Own.free (O : Own F ω B H) (h : l ∈ ω.map (·.1)) : B l = none := by
  obtain ⟨⟨l', C⟩, h1, rfl⟩ := List.mem_map.mp h
  exact (O.ow _ _ h1).1
theorem Own.ex (O : Own F ω B H) : Ex B H := fun a o e => by
  by_cases h : a ∈ ω.map (·.1)
  · rw [O.free h] at e; cases e
  · rw [(O.fr a h).2, e]; rfl
theorem Own.none_of (O : Own F ω B H) (h : H p = none) : B p = none ∧ F p = none ∧ p ∉ ω.map (·.1) := by
  have hp : p ∉ ω.map (·.1) := fun hm => by
    obtain ⟨⟨l', C⟩, h1, e⟩ := List.mem_map.mp hm
    obtain ⟨_, _, o, h2, _⟩ := O.ow _ _ h1
    have e : l' = p := e
    rw [e, h] at h2; cases h2
  have q := (O.fr p hp).2
  rw [h] at q
  cases hb : B p with
  | some o => rw [hb] at q; cases q
  | none =>
    refine ⟨rfl, ?_, hp⟩
    rw [hb] at q
    exact q.symm
/-- a new thing that is never changed -/
theorem Own.new (O : Own F ω B H) (h : H p = none) : Own F ω (upd B p o) (upd H p o) ∧ Ex B (upd B p o) := by
  obtain ⟨h1, h2, h3⟩ := O.none_of h
  have e : Ex B (upd B p o) := Ex.new h1
  refine ⟨⟨O.nd, fun l C hm => ?_, fun a ha => ?_⟩, e⟩
  · obtain ⟨q1, q2, o', q3, q4⟩ := O.ow l C hm
    have hne : l ≠ p := fun z => h3 (z ▸ mem_addr hm)
    exact ⟨by rw [upd_ne hne]; exact q1, q2, o', by rw [upd_ne hne]; exact q3, C.mono e q4⟩
  · by_cases z : a = p
    · subst z
      exact ⟨.inr h2, by rw [upd_same, upd_same]; rfl⟩
    · rw [upd_ne z, upd_ne z]; exact O.fr a ha
/-- a new thing that is owned -/
theorem Own.add (O : Own F ω B H) (h : H p = none) (c : C.p B o) : Own F (ω ++ [(p, C)]) B (upd H p o) := by
  obtain ⟨h1, h2, h3⟩ := O.none_of h
  refine ⟨?_, fun l C' hm => ?_, fun a ha => ?_⟩
  · rw [List.map_append, List.nodup_append]
    refine ⟨O.nd, by simp, fun a ha b hb => ?_⟩
    have e : b = p := by simpa using hb
    rw [e]
    exact fun z => h3 (z ▸ ha)
  · rcases List.mem_append.mp hm with hm | hm
    · obtain ⟨q1, q2, o', q3, q4⟩ := O.ow l C' hm
      have hne : l ≠ p := fun z => h3 (z ▸ mem_addr hm)
      exact ⟨q1, q2, o', by rw [upd_ne hne]; exact q3, q4⟩
    · have e : (l, C') = (p, C) := by simpa using hm
      cases e
      exact ⟨h1, h2, o, upd_same, c⟩
  · have e : a ∉ ω.map (·.1) ∧ a ≠ p := by
      constructor
      · exact fun z => ha (by rw [List.map_append]; exact List.mem_append_left _ z)
      · rintro rfl; exact ha (by simp)
    rw [upd_ne e.2]
    exact O.fr a e.1
theorem Own.cons (O : Own F ω B H) (h : H p = none) (c : C.p B o) : Own F ((p, C) :: ω) B (upd H p o) := by
  have q := O.add h c
  refine ⟨?_, fun l C' hm => q.ow l C' ?_, fun a ha => q.fr a ?_⟩
  · obtain ⟨_, _, h3⟩ := O.none_of h
    exact List.nodup_cons.mpr ⟨h3, O.nd⟩
  · rcases List.mem_cons.mp hm with z | z
    · exact List.mem_append_right _ (by simp [z])
    · exact List.mem_append_left _ z
  · intro z
    apply ha
    rw [List.map_append] at z
    rcases List.mem_append.mp z with z | z
    · exact List.mem_cons_of_mem _ z
    · have : a = p := by simpa using z
      rw [this]; exact List.mem_cons_self
theorem Swp.mem : ∀ {ω ω' : Ws} {l : Addr} {C C' : Co}, Swp ω l C C' ω' → (l, C) ∈ ω
  | _, _, _, _, _, .z => List.mem_cons_self
  | _, _, _, _, _, .s h => List.mem_cons_of_mem _ h.mem
theorem Swp.addrs : ∀ {ω ω' : Ws} {l : Addr} {C C' : Co}, Swp ω l C C' ω' → ω'.map (·.1) = ω.map (·.1)
  | _, _, _, _, _, .z => rfl
  | _, _, _, _, _, .s h => by simp [h.addrs]
theorem Swp.mem' : ∀ {ω ω' : Ws} {l m : Addr} {C C' D : Co}, Swp ω l C C' ω' → (m, D) ∈ ω' → (m, D) = (l, C') ∨ (m, D) ∈ ω
  | _, _, _, _, _, _, _, .z, h => (List.mem_cons.mp h).elim .inl fun z => .inr (List.mem_cons_of_mem _ z)
  | _, _, _, _, _, _, _, .s q, h => (List.mem_cons.mp h).elim (fun z => .inr (by rw [z]; exact List.mem_cons_self)) fun z => (q.mem' z).elim .inl fun z => .inr (List.mem_cons_of_mem _ z)
theorem nodup_addr : ∀ {ω : Ws}, (ω.map (·.1)).Nodup → ∀ {l : Addr} {C D : Co}, (l, C) ∈ ω → (l, D) ∈ ω → C = D
  | [], _, _, _, _, h, _ => by cases h
  | e :: ω, nd, l, C, D, h1, h2 => by
    rw [List.map_cons, List.nodup_cons] at nd
    rcases List.mem_cons.mp h1 with z1 | z1
    · subst z1
      rcases List.mem_cons.mp h2 with z2 | z2
      · cases z2; rfl
      · exact absurd (mem_addr z2) nd.1
    · rcases List.mem_cons.mp h2 with z2 | z2
      · subst z2
        exact absurd (mem_addr z1) nd.1
      · exact nodup_addr nd.2 z1 z2
/-- an owned thing is written -/
theorem Own.swp (O : Own F ω B H) (s : Swp ω l C C' ω') (c : C'.p B o) : Own F ω' B (upd H l o) := by
  have hl := O.ow l C s.mem
  refine ⟨by rw [s.addrs]; exact O.nd, fun m D hm => ?_, fun a ha => ?_⟩
  · by_cases z : m = l
    · subst z
      rcases s.mem' hm with e | e
      · cases e
        exact ⟨hl.1, hl.2.1, o, upd_same, c⟩
      · -- the same address: it is the swapped one
        have e1 : (m, C') ∈ ω' := by
          clear hl hm e c O
          induction s with
          | z => exact List.mem_cons_self
          | s _ ih => exact List.mem_cons_of_mem _ ih
        have e2 := nodup_addr (by rw [s.addrs]; exact O.nd) hm e1
        subst e2
        exact ⟨hl.1, hl.2.1, o, upd_same, c⟩
    · rcases s.mem' hm with e | e
      · cases e; exact absurd rfl z
      · rw [upd_ne z]; exact O.ow m D e
  · rw [s.addrs] at ha
    have z : a ≠ l := fun z => ha (z ▸ mem_addr s.mem)
    rw [upd_ne z]
    exact O.fr a ha
theorem Tak.mem : ∀ {ω ω' : Ws} {l : Addr} {C : Co}, Tak ω l C ω' → (l, C) ∈ ω
  | _, _, _, _, .z => List.mem_cons_self
  | _, _, _, _, .s h => List.mem_cons_of_mem _ h.mem
theorem Tak.sub : ∀ {ω ω' : Ws} {l : Addr} {C : Co} {e : Addr × Co}, Tak ω l C ω' → e ∈ ω' → e ∈ ω
  | _, _, _, _, _, .z, h => List.mem_cons_of_mem _ h
  | _, _, _, _, _, .s q, h => (List.mem_cons.mp h).elim (fun z => by rw [z]; exact List.mem_cons_self) fun z => List.mem_cons_of_mem _ (q.sub z)
theorem Tak.cov : ∀ {ω ω' : Ws} {l a : Addr} {C : Co}, Tak ω l C ω' → a ∈ ω.map (·.1) → a = l ∨ a ∈ ω'.map (·.1)
  | _, _, _, _, _, .z, h => by
    rcases List.mem_cons.mp h with z | z
    · exact .inl z
    · exact .inr z
  | _, _, _, _, _, .s q, h => by
    rcases List.mem_cons.mp h with z | z
    · exact .inr (by rw [z]; exact List.mem_cons_self)
    · exact (q.cov z).elim .inl fun z => .inr (List.mem_cons_of_mem _ z)
theorem Tak.sublist : ∀ {ω ω' : Ws} {l : Addr} {C : Co}, Tak ω l C ω' → (ω'.map (·.1)).Sublist (ω.map (·.1))
  | _, _, _, _, .z => List.Sublist.cons _ (List.Sublist.refl _)
  | _, _, _, _, .s h => by
    rw [List.map_cons, List.map_cons]
    exact List.Sublist.cons_cons _ h.sublist
theorem Tak.not : ∀ {ω ω' : Ws} {l : Addr} {C : Co}, Tak ω l C ω' → (ω.map (·.1)).Nodup → l ∉ ω'.map (·.1)
  | _, _, _, _, .z, nd => (List.nodup_cons.mp nd).1
  | _, _, _, _, .s h, nd => by
    rw [List.map_cons, List.nodup_cons] at nd
    rw [List.map_cons]
    intro z
    rcases List.mem_cons.mp z with z | z
    · exact nd.1 (by rw [← z]; exact mem_addr h.mem)
    · exact h.not nd.2 z
/-- an owned thing is frozen -/
theorem Own.freeze (O : Own F ω B H) (t : Tak ω l C ω') : ∃ o, H l = some o ∧ C.p B o ∧ Own F ω' (upd B l o) H ∧ Ex B (upd B l o) := by
  obtain ⟨h1, h2, o, h3, h4⟩ := O.ow l C t.mem
  have e : Ex B (upd B l o) := Ex.new h1
  refine ⟨o, h3, h4, ⟨O.nd.sublist t.sublist, fun m D hm => ?_, fun a ha => ?_⟩, e⟩
  · obtain ⟨q1, q2, o', q3, q4⟩ := O.ow m D (t.sub hm)
    have z : m ≠ l := fun z => t.not O.nd (z ▸ mem_addr hm)
    exact ⟨by rw [upd_ne z]; exact q1, q2, o', q3, D.mono e q4⟩
  · by_cases z : a = l
    · subst z
      exact ⟨.inr h2, by rw [upd_same, h3]; rfl⟩
    · rw [upd_ne z]
      exact O.fr a fun q => (t.cov q).elim z ha
/-- all owned things behind ω are frozen -/
theorem Own.drop : ∀ {ω2 : Ws} {B : Hp}, Own F (ω ++ ω2) B H → ∃ B', Ex B B' ∧ Own F ω B' H
  | [], B, O => ⟨B, Ex.refl B, by rw [List.append_nil] at O; exact O⟩
  | (l, C) :: ω2, B, O => by
    have t : ∀ ω : Ws, Tak (ω ++ (l, C) :: ω2) l C (ω ++ ω2) := fun ω => by
      induction ω with
      | nil => exact .z
      | cons e ω ih => exact .s ih
    obtain ⟨o, _, _, O', e⟩ := O.freeze (t ω)
    obtain ⟨B', e', O''⟩ := Own.drop (ω2 := ω2) O'
    exact ⟨B', e.trans e', O''⟩
/-- what is owned beside, as a frame -/
def frame (F : Hp) (ω2 : Ws) (H : Hp) : Hp := fun a => if a ∈ ω2.map (·.1) then H a else F a
theorem Own.focus {ω2 : Ws} (O : Own F (ω ++ ω2) B H) : Own (frame F ω2 H) ω B H := by
  have nd := O.nd
  rw [List.map_append, List.nodup_append] at nd
  refine ⟨nd.1, fun l C hm => ?_, fun a ha => ?_⟩
  · obtain ⟨h1, h2, h3⟩ := O.ow l C (List.mem_append_left _ hm)
    refine ⟨h1, ?_, h3⟩
    unfold frame
    rw [if_neg (fun z => nd.2.2 l (mem_addr hm) l z rfl)]
    exact h2
  · unfold frame
    by_cases z : a ∈ ω2.map (·.1)
    · rw [if_pos z]
      obtain ⟨⟨l, C⟩, hm, rfl⟩ := List.mem_map.mp z
      obtain ⟨h1, _, _⟩ := O.ow l C (List.mem_append_right _ hm)
      exact ⟨.inl h1, by rw [h1]; rfl⟩
    · rw [if_neg z]
      exact O.fr a (by rw [List.map_append]; exact fun q => (List.mem_append.mp q).elim ha z)
theorem Own.unfocus {ω2 : Ws} (O : Own F (ω ++ ω2) B H) (e : Ex B B') (O' : Own (frame F ω2 H) ω' B' H') (hd : ω'.map (·.1) = ω.map (·.1)) : Own F (ω' ++ ω2) B' H' := by
  have nd := O.nd
  have hnd : ((ω' ++ ω2).map (·.1)).Nodup := by
    rw [List.map_append, hd, ← List.map_append]; exact nd
  rw [List.map_append, List.nodup_append] at nd
  have inω2 : ∀ l C, (l, C) ∈ ω2 → B' l = none ∧ H' l = H l := fun l C hm => by
    have hl : l ∉ ω'.map (·.1) := by rw [hd]; exact fun z => nd.2.2 l z l (mem_addr hm) rfl
    obtain ⟨q1, q2⟩ := O'.fr l hl
    have hf : frame F ω2 H l = H l := by unfold frame; rw [if_pos (mem_addr hm)]
    obtain ⟨_, _, o, h3, _⟩ := O.ow l C (List.mem_append_right _ hm)
    rw [hf] at q1 q2
    have hb : B' l = none := by
      rcases q1 with z | z
      · exact z
      · rw [h3] at z; cases z
    rw [hb] at q2
    exact ⟨hb, q2⟩
  refine ⟨hnd, fun l C hm => ?_, fun a ha => ?_⟩
  · rcases List.mem_append.mp hm with hm | hm
    · obtain ⟨h1, h2, h3⟩ := O'.ow l C hm
      refine ⟨h1, ?_, h3⟩
      have hl : l ∉ ω2.map (·.1) := fun z => nd.2.2 l (by rw [← hd]; exact mem_addr hm) l z rfl
      unfold frame at h2
      rw [if_neg hl] at h2
      exact h2
    · obtain ⟨_, h2, o, h3, h4⟩ := O.ow l C (List.mem_append_right _ hm)
      obtain ⟨q1, q2⟩ := inω2 l C hm
      exact ⟨q1, h2, o, by rw [q2]; exact h3, C.mono e h4⟩
  · rw [List.map_append] at ha
    have h1 : a ∉ ω'.map (·.1) := fun z => ha (List.mem_append_left _ z)
    have h2 : a ∉ ω2.map (·.1) := fun z => ha (List.mem_append_right _ z)
    have q := O'.fr a h1
    unfold frame at q
    rw [if_neg h2] at q
    exact q
end
end ZZ

set_option maxHeartbeats 2000000
/-! Z2: judgements over the text itself. -/
namespace ZZ
open PySem PySem.Spec PyProof.Rows L2
open Evl (Ex)

/-! ### the weakest readings -/
def tW (X : Cx) (e : Expr) : TE := fun σ H Q => ∀ pins s, Inv X pins σ H s → wpAny (model X.prog X.w) X.A (eval e X.env) (EP X pins σ Q) X.xe s
def tT (X : Cx) (e : Expr) : TT := fun σ H Q => ∀ pins s, Inv X pins σ H s → wpAny (model X.prog X.w) X.A (isTrue e X.env (eval e X.env)) (TP X pins σ Q) X.xe s
def tV (X : Cx) (e : Expr) : TT := fun σ H Q => ∀ whole pins s, Inv X pins σ H s → wpAny (model X.prog X.w) X.A (isTrue e X.env whole) (TP X pins σ Q) X.xe s
def tA (X : Cx) (es : List Expr) : TA := fun σ H Q => ∀ pos pins s, Inv X pins σ H s → wpAny (model X.prog X.w) X.A (spliced (backTo pos (starEach es X.env))) (AP X pins σ Q) X.xe s
def tS (X : Cx) (sts : List Stmt) : TS := fun D σ H => ∀ pins s, Inv X pins σ H s → wpAny (model X.prog X.w) X.A (execs sts X.env) (SP X pins D) X.xe s
section
variable {X : Cx} {e : Expr} {es : List Expr} {sts rest : List Stmt} {st : Stmt} {t : TE} {tt : TT} {ta : TA} {ts : TS} {σ : L2.St} {H : Hp} {D : Ends}
theorem pe_w : PE X e (tW X e) := ⟨fun pins s _ _ _ I h => h pins s I⟩
theorem pt_w : PT X e (tT X e) := ⟨fun pins s _ _ _ I h => h pins s I⟩
theorem pv_w : PW X e (tV X e) := ⟨fun wh pins s _ _ _ I h => h wh pins s I⟩
theorem pa_w : PA X es (tA X es) := ⟨fun pos pins s _ _ _ I h => h pos pins s I⟩
theorem pss_w : PSs X sts (tS X sts) := ⟨fun pins s _ _ _ I h => h pins s I⟩
theorem tW.of {Q : VK} (h : PE X e t) (q : t σ H Q) : tW X e σ H Q := fun pins s I => h.run pins s σ H Q I q
theorem tT.of {Q : Bool → Hp → Prop} (h : PT X e tt) (q : tt σ H Q) : tT X e σ H Q := fun pins s I => h.run pins s σ H Q I q
theorem tV.of {Q : Bool → Hp → Prop} (h : PW X e tt) (q : tt σ H Q) : tV X e σ H Q := fun wh pins s I => h.run wh pins s σ H Q I q
theorem tA.of {Q : List V → Hp → Prop} (h : PA X es ta) (q : ta σ H Q) : tA X es σ H Q := fun pos pins s I => h.run pos pins s σ H Q I q
theorem tS.of (h : PSs X sts ts) (q : ts D σ H) : tS X sts D σ H := fun pins s I => h.run pins s σ H D I q
/-- a statement, then the rest -/
theorem tS.cons (h : PS X st ts) (q : ts { D with nx := tS X rest D } σ H) : tS X (st :: rest) D σ H := tS.of (pss_cons h pss_w) q
end

/-! ### where a body stands -/
structure Mo where
  P : Program
  w : World
  K : PySem.W.Frag
  mg : Str → Option Value
  base : Heap
structure Cc where
  M : Mo
  sc : Scope
  k : Nat
  cl : Bool := true
structure Fits (c : Cc) (N : List Str) (X : Cx) : Prop where
  prog : X.prog = c.M.P
  w : X.w = c.M.w
  K : X.K = c.M.K
  mg : X.mg = c.M.mg
  base : X.base = c.M.base
  sc : X.env.scope = c.sc
  ns : X.N = N
  nd : N.Nodup
  calm : X.calm = true
  room : Room c.k X.A
  cell : c.cl = true → ∀ x, c.sc.names.lookup x = some .cell → X.fn x = true
  pass : PassesOwn (model X.prog X.w) X.A X.env X.xe

/-! ### the judgements -/
def DE (c : Cc) (Γ : En) (ω : Ws) (e : Expr) (S : Sh) (ω' : Ws) : Prop :=
  ∀ X, Fits c (Γ.map (·.1)) X → ∀ F σ B H, EnvOk Γ σ B → Own F ω B H → ∀ Q : VK, (∀ v B' H', Ex B B' → Own F ω' B' H' → S.p B' v → Q v H') → tW X e σ H Q
def DT (c : Cc) (Γ : En) (ω : Ws) (e : Expr) (R : Bool → Prop) (ω' : Ws) : Prop :=
  ∀ X, Fits c (Γ.map (·.1)) X → ∀ F σ B H, EnvOk Γ σ B → Own F ω B H → ∀ Q : Bool → Hp → Prop, (∀ b B' H', Ex B B' → Own F ω' B' H' → R b → Q b H') → tT X e σ H Q
def DV (c : Cc) (Γ : En) (ω : Ws) (e : Expr) (R : Bool → Prop) (ω' : Ws) : Prop :=
  ∀ X, Fits c (Γ.map (·.1)) X → ∀ F σ B H, EnvOk Γ σ B → Own F ω B H → ∀ Q : Bool → Hp → Prop, (∀ b B' H', Ex B B' → Own F ω' B' H' → R b → Q b H') → tV X e σ H Q
def DA (c : Cc) (Γ : En) (ω : Ws) (es : List Expr) (ss : List Sh) (ω' : Ws) : Prop :=
  ∀ X, Fits c (Γ.map (·.1)) X → ∀ F σ B H, EnvOk Γ σ B → Own F ω B H → ∀ Q : List V → Hp → Prop, (∀ vs B' H', Ex B B' → Own F ω' B' H' → All2 (fun v (s : Sh) => s.p B' v) vs ss → Q vs H') → tA X es σ H Q
def DS (c : Cc) (X : Cx) (B0 F : Hp) (D : Ends) (Γ : En) (ω : Ws) (sts : List Stmt) : Prop :=
  Fits c (Γ.map (·.1)) X → ∀ σ B H, Ex B0 B → EnvOk Γ σ B → Own F ω B H → tS X sts D σ H
/-- an operation of two values, one value, a list of values, by shapes -/
def RR (r : R2) (SA SB S : Sh) : Prop := ∀ F ω B H v u, SA.p B v → SB.p B u → Own F ω B H → ∀ Q : VK, (∀ z B' H', Ex B B' → Own F ω B' H' → S.p B' z → Q z H') → r v u H Q
def RU (r : V → Hp → VK → Prop) (SA S : Sh) : Prop := ∀ F ω B H v, SA.p B v → Own F ω B H → ∀ Q : VK, (∀ z B' H', Ex B B' → Own F ω B' H' → S.p B' z → Q z H') → r v H Q
def RC (r : List V → Hp → VK → Prop) (ss : List Sh) (S : Sh) : Prop := ∀ F ω B H vs, All2 (fun v (s : Sh) => s.p B v) vs ss → Own F ω B H → ∀ Q : VK, (∀ z B' H', Ex B B' → Own F ω B' H' → S.p B' z → Q z H') → r vs H Q

section
variable {c : Cc} {Γ : En} {ω ω1 ω2 ω3 : Ws} {a b d e : Expr} {es : List Expr} {S SA SB T : Sh} {R R1 R2 : Bool → Prop} {pos p : Pos} {x : Str}

theorem DE.wide (h : DE c Γ ω e S ω1) (w : Sle S T) : DE c Γ ω e T ω1 := fun X fx F σ B H hE hO Q hQ => h X fx F σ B H hE hO Q fun v B' H' e1 O1 p1 => hQ v B' H' e1 O1 (w _ _ p1)
theorem DT.wide (h : DT c Γ ω e R ω1) (w : ∀ b, R b → R1 b) : DT c Γ ω e R1 ω1 := fun X fx F σ B H hE hO Q hQ => h X fx F σ B H hE hO Q fun v B' H' e1 O1 p1 => hQ v B' H' e1 O1 (w _ p1)

/-! ### names, constants -/
theorem d_name (hh : Has Γ x S) (hv : Vis c.sc x := by first | exact Or.inl rfl | exact Or.inr (Or.inl rfl) | exact Or.inr (Or.inr rfl)) (hd : (x == ("__debug__" : Str)) = false := by decide)
    (hcd : (x == ("__classdict__" : Str)) = false := by decide) : DE c Γ ω (.Name x p) S ω := by
  intro X fx F σ B H hE hO Q hQ
  obtain ⟨i, v, h1, h2, h3⟩ := hh.get hE
  exact tW.of (pe_var (i := i) (by rw [fx.ns]; exact h1) (by rw [fx.sc]; exact hv) hd hcd) ⟨v, h2, hQ v B H (Ex.refl B) hO h3⟩
theorem d_c {v : V} (h : ∀ X, PE X e (tC v)) : DE c Γ ω e (Sc v) ω := fun X fx F σ B H hE hO Q hQ => tW.of (h X) (hQ v B H (Ex.refl B) hO rfl)
theorem d_int {i : Int} {j} : DE c Γ ω (.Constant (.int i) j p) (I i) ω := d_c fun _ => pe_int
theorem d_bool {i : Bool} {j} : DE c Γ ω (.Constant (.bool i) j p) (Bo i) ω := d_c fun _ => pe_bl
theorem d_none {j} : DE c Γ ω (.Constant .none j p) No ω := d_c fun _ => pe_non
theorem d_str {i : Str} {j} : DE c Γ ω (.Constant (.str i) j p) (Tx i) ω := d_c fun _ => pe_str

/-! ### operators -/
theorem d_bin {op : Operator} {r : L2.R2} (ho : ∀ X, OpR X (binaryOp op) r) (ha : DE c Γ ω a SA ω1) (hb : DE c Γ ω1 b SB ω2) (hr : RR r SA SB S) : DE c Γ ω (.BinOp a op b pos) S ω2 := by
  intro X fx F σ B H hE hO Q hQ
  refine tW.of (pe_op (ho X) pe_w pe_w) ?_
  refine ha X fx F σ B H hE hO _ fun v B1 H1 e1 O1 p1 => ?_
  refine hb X fx F σ B1 H1 (hE.mono e1) O1 _ fun u B2 H2 e2 O2 p2 => ?_
  exact hr F ω2 B2 H2 v u (SA.mono e2 p1) p2 O2 Q fun z B' H' e3 O3 p3 => hQ z B' H' ((e1.trans e2).trans e3) O3 p3
theorem d_un {op : UnaryOp} {r : V → Hp → VK → Prop} (ho : ∀ X, UnR X (unaryOp op) r) (ha : DE c Γ ω a SA ω1) (hr : RU r SA S) : DE c Γ ω (.UnaryOp op a pos) S ω1 := by
  intro X fx F σ B H hE hO Q hQ
  refine tW.of (pe_un (ho X) pe_w) ?_
  refine ha X fx F σ B H hE hO _ fun v B1 H1 e1 O1 p1 => ?_
  exact hr F ω1 B1 H1 v p1 O1 Q fun z B' H' e3 O3 p3 => hQ z B' H' (e1.trans e3) O3 p3
theorem rr_I0 {g : Int → Int → V} {i j : Int} : RR (rI0 g) (I i) (I j) (Sc (g i j)) := fun F ω B H v u h1 h2 O Q q => ⟨i, j, h1, h2, q _ B H (Ex.refl B) O rfl⟩
theorem rr_I {C : Int → Int → Prop} {g : Int → Int → V} {i j : Int} (hc : C i j) : RR (rI C g) (I i) (I j) (Sc (g i j)) := fun F ω B H v u h1 h2 O Q q => ⟨i, j, h1, h2, hc, q _ B H (Ex.refl B) O rfl⟩
/-- numbers that are known up to a word -/
abbrev Ei (P : Int → Prop) : Sh := Es P I
theorem rr_E0 {g : Int → Int → V} {P Q' : Int → Prop} {α : Type} {W : α → Prop} {R : α → Sh} (h : ∀ i j, P i → Q' j → ∃ x, W x ∧ ∀ B, (R x).p B (g i j)) : RR (rI0 g) (Ei P) (Ei Q') (Es W R) := fun F ω B H v u h1 h2 O Q q => by
  obtain ⟨i, hi, e1⟩ := h1
  obtain ⟨j, hj, e2⟩ := h2
  obtain ⟨x, hx, hR⟩ := h i j hi hj
  exact ⟨i, j, e1, e2, q _ B H (Ex.refl B) O ⟨x, hx, hR B⟩⟩
theorem rr_E {C : Int → Int → Prop} {g : Int → Int → V} {P Q' : Int → Prop} {α : Type} {W : α → Prop} {R : α → Sh} (h : ∀ i j, P i → Q' j → C i j ∧ ∃ x, W x ∧ ∀ B, (R x).p B (g i j)) : RR (rI C g) (Ei P) (Ei Q') (Es W R) := fun F ω B H v u h1 h2 O Q q => by
  obtain ⟨i, hi, e1⟩ := h1
  obtain ⟨j, hj, e2⟩ := h2
  obtain ⟨hc, x, hx, hR⟩ := h i j hi hj
  exact ⟨i, j, e1, e2, hc, q _ B H (Ex.refl B) O ⟨x, hx, hR B⟩⟩
theorem d_add {i j : Int} (ha : DE c Γ ω a (I i) ω1) (hb : DE c Γ ω1 b (I j) ω2) : DE c Γ ω (.BinOp a .Add b pos) (I (i + j)) ω2 := d_bin (fun _ => op_add) ha hb rr_I0
theorem d_sub {i j : Int} (ha : DE c Γ ω a (I i) ω1) (hb : DE c Γ ω1 b (I j) ω2) : DE c Γ ω (.BinOp a .Sub b pos) (I (i - j)) ω2 := d_bin (fun _ => op_sub) ha hb rr_I0
theorem d_mul {i j : Int} (ha : DE c Γ ω a (I i) ω1) (hb : DE c Γ ω1 b (I j) ω2) (hc : CMul i j) : DE c Γ ω (.BinOp a .Mult b pos) (I (i * j)) ω2 := d_bin (fun _ => op_mul) ha hb (rr_I hc)
theorem d_div {i j : Int} (ha : DE c Γ ω a (I i) ω1) (hb : DE c Γ ω1 b (I j) ω2) (hc : CDiv i j) : DE c Γ ω (.BinOp a .FloorDiv b pos) (I (i / j)) ω2 := d_bin (fun _ => op_fdiv) ha hb (rr_I hc)
theorem d_mod {i j : Int} (ha : DE c Γ ω a (I i) ω1) (hb : DE c Γ ω1 b (I j) ω2) (hc : 0 < j) : DE c Γ ω (.BinOp a .Mod b pos) (I (i % j)) ω2 := d_bin (fun _ => op_mod) ha hb (rr_I hc)
theorem d_neg {i : Int} (ha : DE c Γ ω a (I i) ω1) : DE c Γ ω (.UnaryOp .USub a pos) (I (-i)) ω1 := d_un (fun _ => un_neg) ha fun F ω B H v h1 O Q q => ⟨i, h1, q _ B H (Ex.refl B) O rfl⟩
/-- numbers known up to a word -/
theorem DE.some {i : Int} (h : DE c Γ ω e (I i) ω1) : DE c Γ ω e (Ei (· = i)) ω1 := h.wide fun _ _ q => ⟨i, rfl, q⟩

/-! ### comparisons -/
theorem d_cmp {op : CmpOp} {r : L2.R2} (ho : ∀ X, Fits c (Γ.map (·.1)) X → OpR X (compareOp op) r) (ha : DE c Γ ω a SA ω1) (hb : DE c Γ ω1 b SB ω2) (hr : RR r SA SB S) (hm : behindInMarks op b = false) : DE c Γ ω (.Compare a [op] [b] pos) S ω2 := by
  intro X fx F σ B H hE hO Q hQ
  refine tW.of (pe_cmpR (ho X fx) pe_w pe_w hm) ?_
  refine ha X fx F σ B H hE hO _ fun v B1 H1 e1 O1 p1 => ?_
  refine hb X fx F σ B1 H1 (hE.mono e1) O1 _ fun u B2 H2 e2 O2 p2 => ?_
  exact hr F ω2 B2 H2 v u (SA.mono e2 p1) p2 O2 Q fun z B' H' e3 O3 p3 => hQ z B' H' ((e1.trans e2).trans e3) O3 p3
theorem t_cmp {op : CmpOp} {r : L2.R2} (ho : ∀ X, Fits c (Γ.map (·.1)) X → OpR X (compareOp op) r) (ha : DE c Γ ω a SA ω1) (hb : DE c Γ ω1 b SB ω2) (hr : RR r SA SB (Es R Bo)) (hm : behindInMarks op b = false) : DT c Γ ω (.Compare a [op] [b] pos) R ω2 := by
  intro X fx F σ B H hE hO Q hQ
  refine tT.of (pt_cmpR (ho X fx) pe_w pe_w hm) ?_
  refine ha X fx F σ B H hE hO _ fun v B1 H1 e1 O1 p1 => ?_
  refine hb X fx F σ B1 H1 (hE.mono e1) O1 _ fun u B2 H2 e2 O2 p2 => ?_
  refine hr F ω2 B2 H2 v u (SA.mono e2 p1) p2 O2 _ fun z B' H' e3 O3 p3 => ?_
  obtain ⟨k, hk, e⟩ := p3
  exact ⟨k, e, hQ k B' H' ((e1.trans e2).trans e3) O3 hk⟩
theorem Sle.tb {k : Bool} : Sle (Bo k) (Es (· = k) Bo) := fun _ _ q => ⟨k, rfl, q⟩
theorem RR.wide {r : L2.R2} (h : RR r SA SB S) (w : Sle S T) : RR r SA SB T := fun F ω B H v u h1 h2 O Q q => h F ω B H v u h1 h2 O Q fun z B' H' e3 O3 p3 => q z B' H' e3 O3 (w _ _ p3)
theorem rr_eq {v u : V} (hs : scal v u = true) : RR rEq (Sc v) (Sc u) (Bo (decide (v = u))) := fun F ω B H x y h1 h2 O Q q => by
  have h1 : x = v := h1
  have h2 : y = u := h2
  subst h1 h2
  exact ⟨hs, q _ B H (Ex.refl B) O rfl⟩
theorem rr_ne {v u : V} (hs : scal v u = true) : RR rNe (Sc v) (Sc u) (Bo (!decide (v = u))) := fun F ω B H x y h1 h2 O Q q => by
  have h1 : x = v := h1
  have h2 : y = u := h2
  subst h1 h2
  exact ⟨hs, q _ B H (Ex.refl B) O rfl⟩
theorem vint {i j : Int} : decide (V.int i = V.int j) = decide (i = j) := by simp
theorem vstr {i j : Str} : decide (V.str i = V.str j) = decide (i = j) := by simp
section
variable {i j : Int} {s u : Str}
theorem t_lt (ha : DE c Γ ω a (I i) ω1) (hb : DE c Γ ω1 b (I j) ω2) : DT c Γ ω (.Compare a [.Lt] [b] pos) (· = decide (i < j)) ω2 := t_cmp (fun _ _ => op_lt) ha hb (rr_I0.wide Sle.tb) (nomark _)
theorem t_le (ha : DE c Γ ω a (I i) ω1) (hb : DE c Γ ω1 b (I j) ω2) : DT c Γ ω (.Compare a [.LtE] [b] pos) (· = decide (i ≤ j)) ω2 := t_cmp (fun _ _ => op_le) ha hb (rr_I0.wide Sle.tb) (nomark _)
theorem t_gt (ha : DE c Γ ω a (I i) ω1) (hb : DE c Γ ω1 b (I j) ω2) : DT c Γ ω (.Compare a [.Gt] [b] pos) (· = decide (j < i)) ω2 := t_cmp (fun _ _ => op_gt) ha hb (rr_I0.wide Sle.tb) (nomark _)
theorem t_ge (ha : DE c Γ ω a (I i) ω1) (hb : DE c Γ ω1 b (I j) ω2) : DT c Γ ω (.Compare a [.GtE] [b] pos) (· = decide (j ≤ i)) ω2 := t_cmp (fun _ _ => op_ge) ha hb (rr_I0.wide Sle.tb) (nomark _)
theorem t_eqI (ha : DE c Γ ω a (I i) ω1) (hb : DE c Γ ω1 b (I j) ω2) : DT c Γ ω (.Compare a [.Eq] [b] pos) (· = decide (i = j)) ω2 := t_cmp (fun _ _ => op_eq) ha hb ((rr_eq rfl).wide (by rw [vint]; exact Sle.tb)) (nomark _)
theorem t_neI (ha : DE c Γ ω a (I i) ω1) (hb : DE c Γ ω1 b (I j) ω2) : DT c Γ ω (.Compare a [.NotEq] [b] pos) (· = !decide (i = j)) ω2 := t_cmp (fun _ _ => op_ne) ha hb ((rr_ne rfl).wide (by rw [vint]; exact Sle.tb)) (nomark _)
theorem t_eqS (ha : DE c Γ ω a (Tx s) ω1) (hb : DE c Γ ω1 b (Tx u) ω2) : DT c Γ ω (.Compare a [.Eq] [b] pos) (· = decide (s = u)) ω2 := t_cmp (fun _ _ => op_eq) ha hb ((rr_eq rfl).wide (by rw [vstr]; exact Sle.tb)) (nomark _)
theorem t_neS (ha : DE c Γ ω a (Tx s) ω1) (hb : DE c Γ ω1 b (Tx u) ω2) : DT c Γ ω (.Compare a [.NotEq] [b] pos) (· = !decide (s = u)) ω2 := t_cmp (fun _ _ => op_ne) ha hb ((rr_ne rfl).wide (by rw [vstr]; exact Sle.tb)) (nomark _)
theorem d_lt (ha : DE c Γ ω a (I i) ω1) (hb : DE c Γ ω1 b (I j) ω2) : DE c Γ ω (.Compare a [.Lt] [b] pos) (Bo (decide (i < j))) ω2 := d_cmp (fun _ _ => op_lt) ha hb rr_I0 (nomark _)
theorem d_le (ha : DE c Γ ω a (I i) ω1) (hb : DE c Γ ω1 b (I j) ω2) : DE c Γ ω (.Compare a [.LtE] [b] pos) (Bo (decide (i ≤ j))) ω2 := d_cmp (fun _ _ => op_le) ha hb rr_I0 (nomark _)
theorem d_gt (ha : DE c Γ ω a (I i) ω1) (hb : DE c Γ ω1 b (I j) ω2) : DE c Γ ω (.Compare a [.Gt] [b] pos) (Bo (decide (j < i))) ω2 := d_cmp (fun _ _ => op_gt) ha hb rr_I0 (nomark _)
theorem d_ge (ha : DE c Γ ω a (I i) ω1) (hb : DE c Γ ω1 b (I j) ω2) : DE c Γ ω (.Compare a [.GtE] [b] pos) (Bo (decide (j ≤ i))) ω2 := d_cmp (fun _ _ => op_ge) ha hb rr_I0 (nomark _)
theorem d_eqI (ha : DE c Γ ω a (I i) ω1) (hb : DE c Γ ω1 b (I j) ω2) : DE c Γ ω (.Compare a [.Eq] [b] pos) (Bo (decide (i = j))) ω2 := d_cmp (fun _ _ => op_eq) ha hb (by rw [← vint]; exact rr_eq rfl) (nomark _)
theorem d_neI (ha : DE c Γ ω a (I i) ω1) (hb : DE c Γ ω1 b (I j) ω2) : DE c Γ ω (.Compare a [.NotEq] [b] pos) (Bo (!decide (i = j))) ω2 := d_cmp (fun _ _ => op_ne) ha hb (by rw [← vint]; exact rr_ne rfl) (nomark _)
theorem d_eqS (ha : DE c Γ ω a (Tx s) ω1) (hb : DE c Γ ω1 b (Tx u) ω2) : DE c Γ ω (.Compare a [.Eq] [b] pos) (Bo (decide (s = u))) ω2 := d_cmp (fun _ _ => op_eq) ha hb (by rw [← vstr]; exact rr_eq rfl) (nomark _)
end
/-- is None, of any shape that says whether it is -/
def NonB (S : Sh) (k : Bool) : Prop := ∀ B v, S.p B v → decide (v = V.non) = k
theorem nonb_sc {v : V} : NonB (Sc v) (decide (v = .non)) := fun B u h => by
  have h : u = v := h
  rw [h]
theorem nonb_seq {b : Bool} {α : Type} {R : α → Sh} {xs : List α} : NonB (Sq b R xs) false := fun B u h => by
  obtain ⟨a, vs, rfl, _⟩ := h
  rfl
theorem nonb_tup {ss : List Sh} : NonB (U ss) false := fun B u h => by
  obtain ⟨a, vs, rfl, _⟩ := h
  rfl
theorem t_isN {k : Bool} {j p'} (ha : DE c Γ ω a SA ω1) (h : NonB SA k) : DT c Γ ω (.Compare a [.Is] [.Constant .none j p'] pos) (· = k) ω1 :=
  t_cmp (fun _ _ => op_isN) ha d_none (fun F ω B H v u h1 h2 O Q q => ⟨h2, q _ B H (Ex.refl B) O ⟨_, h _ _ h1, rfl⟩⟩) (nomark _)
theorem t_notN {k : Bool} {j p'} (ha : DE c Γ ω a SA ω1) (h : NonB SA k) : DT c Γ ω (.Compare a [.IsNot] [.Constant .none j p'] pos) (· = !k) ω1 :=
  t_cmp (fun _ _ => op_notN) ha d_none (fun F ω B H v u h1 h2 O Q q => ⟨h2, q _ B H (Ex.refl B) O ⟨_, by rw [h _ _ h1], rfl⟩⟩) (nomark _)
theorem d_isN {k : Bool} {j p'} (ha : DE c Γ ω a SA ω1) (h : NonB SA k) : DE c Γ ω (.Compare a [.Is] [.Constant .none j p'] pos) (Bo k) ω1 :=
  d_cmp (fun _ _ => op_isN) ha d_none (fun F ω B H v u h1 h2 O Q q => ⟨h2, q _ B H (Ex.refl B) O (by show V.bl _ = V.bl _; rw [h _ _ h1])⟩) (nomark _)
/-- a <= b <= c of ints -/
theorem t_chain {o o' : CmpOp} {g g' : Int → Int → Bool} {i j l : Int} (h1 : ∀ X, OpR X (compareOp o) (rI0 fun i j => .bl (g i j))) (h2 : ∀ X, OpR X (compareOp o') (rI0 fun i j => .bl (g' i j))) (ha : DE c Γ ω a (I i) ω1) (hb : DE c Γ ω1 b (I j) ω2) (hc : DE c Γ ω2 d (I l) ω2)
    (hm : lastMarks [o, o'] [b, d] = false := by with_unfolding_all rfl) : DT c Γ ω (.Compare a [o, o'] [b, d] pos) (· = (g i j && g' j l)) ω2 := by
  intro X fx F σ B H hE hO Q hQ
  refine tT.of (pt_chain (h1 X) (h2 X) pe_w pe_w pe_w hm) ?_
  refine ha X fx F σ B H hE hO _ fun v B1 H1 e1 O1 p1 => ?_
  refine hb X fx F σ B1 H1 (hE.mono e1) O1 _ fun u B2 H2 e2 O2 p2 => ?_
  refine ⟨i, j, p1, p2, g i j, rfl, ?_⟩
  cases hg : g i j with
  | false =>
    rw [if_neg Bool.false_ne_true]
    exact ⟨false, rfl, hQ false B2 H2 (e1.trans e2) O2 (by rw [hg]; rfl)⟩
  | true =>
    rw [if_pos rfl]
    refine hc X fx F σ B2 H2 (hE.mono (e1.trans e2)) O2 _ fun z B3 H3 e3 O3 p3 => ?_
    exact ⟨j, l, p2, p3, g' j l, rfl, hQ _ B3 H3 ((e1.trans e2).trans e3) O3 (by rw [hg]; rfl)⟩

/-! ### tests -/
theorem t_val {k : Bool} (h : DE c Γ ω e (Bo k) ω1) (he : ∀ env whole, isTrue e env whole = (do let v ← whole; standAt e.pos; holding [v] (truthy v)) := by intro _ _; rfl) : DT c Γ ω e (· = k) ω1 := by
  intro X fx F σ B H hE hO Q hQ
  refine tT.of (pt_val pe_w (he _)) ?_
  exact h X fx F σ B H hE hO _ fun v B1 H1 e1 O1 p1 => ⟨k, p1, hQ k B1 H1 e1 O1 rfl⟩
theorem t_not (h : DT c Γ ω e R ω1) : DT c Γ ω (.UnaryOp .Not e pos) (fun b => R (!b)) ω1 := by
  intro X fx F σ B H hE hO Q hQ
  refine tT.of (pt_not pt_w) ?_
  exact h X fx F σ B H hE hO _ fun v B1 H1 e1 O1 p1 => hQ (!v) B1 H1 e1 O1 (by show R (!!v); rw [Bool.not_not]; exact p1)
theorem t_notD {k : Bool} (h : DT c Γ ω e (· = k) ω1) : DT c Γ ω (.UnaryOp .Not e pos) (· = !k) ω1 := (t_not h).wide fun b q => by
  have q : (!b) = k := q
  rw [← q, Bool.not_not]
theorem t_w (h : DV c Γ ω e R ω1) : DT c Γ ω e R ω1 := by
  intro X fx F σ B H hE hO Q hQ
  exact tT.of (PW.pt pv_w) (h X fx F σ B H hE hO Q hQ)
theorem v_and1 (h : DT c Γ ω a R ω1) : DV c Γ ω (.BoolOp .And [a] pos) R ω1 := fun X fx F σ B H hE hO Q hQ => tV.of (pw_and1 pt_w) (h X fx F σ B H hE hO Q hQ)
theorem v_or1 (h : DT c Γ ω a R ω1) : DV c Γ ω (.BoolOp .Or [a] pos) R ω1 := fun X fx F σ B H hE hO Q hQ => tV.of (pw_or1 pt_w) (h X fx F σ B H hE hO Q hQ)
theorem v_and {k l : Bool} (ha : DT c Γ ω a (· = k) ω) (hb : k = true → DV c Γ ω (.BoolOp .And (b :: es) pos) (· = l) ω) : DV c Γ ω (.BoolOp .And (a :: b :: es) pos) (· = (k && l)) ω := by
  intro X fx F σ B H hE hO Q hQ
  refine tV.of (pw_and pt_w pv_w) ?_
  refine ha X fx F σ B H hE hO _ fun v B1 H1 e1 O1 p1 => ?_
  have p1 : v = k := p1
  subst p1
  cases v with
  | false => exact hQ _ B1 H1 e1 O1 rfl
  | true => exact hb rfl X fx F σ B1 H1 (hE.mono e1) O1 _ fun u B2 H2 e2 O2 p2 => hQ u B2 H2 (e1.trans e2) O2 p2
theorem v_or {k l : Bool} (ha : DT c Γ ω a (· = k) ω) (hb : k = false → DV c Γ ω (.BoolOp .Or (b :: es) pos) (· = l) ω) : DV c Γ ω (.BoolOp .Or (a :: b :: es) pos) (· = (k || l)) ω := by
  intro X fx F σ B H hE hO Q hQ
  refine tV.of (pw_or pt_w pv_w) ?_
  refine ha X fx F σ B H hE hO _ fun v B1 H1 e1 O1 p1 => ?_
  have p1 : v = k := p1
  subst p1
  cases v with
  | true => exact hQ _ B1 H1 e1 O1 rfl
  | false => exact hb rfl X fx F σ B1 H1 (hE.mono e1) O1 _ fun u B2 H2 e2 O2 p2 => hQ u B2 H2 (e1.trans e2) O2 p2
/-- .. where the answer is not known -/
theorem v_andR {R2' : Bool → Prop} (ha : DT c Γ ω a R ω) (hb : R true → DV c Γ ω (.BoolOp .And (b :: es) pos) R2' ω) (hf : R false → R1 false) (ht : ∀ b, R true → R2' b → R1 b) : DV c Γ ω (.BoolOp .And (a :: b :: es) pos) R1 ω := by
  intro X fx F σ B H hE hO Q hQ
  refine tV.of (pw_and pt_w pv_w) ?_
  refine ha X fx F σ B H hE hO _ fun v B1 H1 e1 O1 p1 => ?_
  cases v with
  | false => exact hQ _ B1 H1 e1 O1 (hf p1)
  | true => exact hb p1 X fx F σ B1 H1 (hE.mono e1) O1 _ fun u B2 H2 e2 O2 p2 => hQ u B2 H2 (e1.trans e2) O2 (ht u p1 p2)
theorem v_orR {R2' : Bool → Prop} (ha : DT c Γ ω a R ω) (hb : R false → DV c Γ ω (.BoolOp .Or (b :: es) pos) R2' ω) (hf : R true → R1 true) (ht : ∀ b, R false → R2' b → R1 b) : DV c Γ ω (.BoolOp .Or (a :: b :: es) pos) R1 ω := by
  intro X fx F σ B H hE hO Q hQ
  refine tV.of (pw_or pt_w pv_w) ?_
  refine ha X fx F σ B H hE hO _ fun v B1 H1 e1 O1 p1 => ?_
  cases v with
  | true => exact hQ _ B1 H1 e1 O1 (hf p1)
  | false => exact hb p1 X fx F σ B1 H1 (hE.mono e1) O1 _ fun u B2 H2 e2 O2 p2 => hQ u B2 H2 (e1.trans e2) O2 (ht u p1 p2)
/-! ### and, or, not as values of truth -/
theorem d_one {op : BoolOp} (h : DE c Γ ω a S ω1) : DE c Γ ω (.BoolOp op [a] pos) S ω1 := fun X fx F σ B H hE hO Q hQ => tW.of (pe_one pe_w) (h X fx F σ B H hE hO Q hQ)
theorem d_and {k l : Bool} (ha : DE c Γ ω a (Bo k) ω) (hb : k = true → DE c Γ ω (.BoolOp .And (b :: es) pos) (Bo l) ω) : DE c Γ ω (.BoolOp .And (a :: b :: es) pos) (Bo (k && l)) ω := by
  intro X fx F σ B H hE hO Q hQ
  refine tW.of (pe_and pe_w pe_w) ?_
  refine ha X fx F σ B H hE hO _ fun v B1 H1 e1 O1 p1 => ⟨k, p1, ?_⟩
  cases k with
  | false => exact hQ _ B1 H1 e1 O1 rfl
  | true => exact hb rfl X fx F σ B1 H1 (hE.mono e1) O1 _ fun u B2 H2 e2 O2 p2 => hQ u B2 H2 (e1.trans e2) O2 p2
theorem d_or {k l : Bool} (ha : DE c Γ ω a (Bo k) ω) (hb : k = false → DE c Γ ω (.BoolOp .Or (b :: es) pos) (Bo l) ω) : DE c Γ ω (.BoolOp .Or (a :: b :: es) pos) (Bo (k || l)) ω := by
  intro X fx F σ B H hE hO Q hQ
  refine tW.of (pe_or pe_w pe_w) ?_
  refine ha X fx F σ B H hE hO _ fun v B1 H1 e1 O1 p1 => ⟨k, p1, ?_⟩
  cases k with
  | true => exact hQ _ B1 H1 e1 O1 rfl
  | false => exact hb rfl X fx F σ B1 H1 (hE.mono e1) O1 _ fun u B2 H2 e2 O2 p2 => hQ u B2 H2 (e1.trans e2) O2 p2
theorem d_not {k : Bool} (ha : DE c Γ ω a (Bo k) ω1) : DE c Γ ω (.UnaryOp .Not a pos) (Bo (!k)) ω1 := by
  intro X fx F σ B H hE hO Q hQ
  refine tW.of (pe_not pe_w) ?_
  exact ha X fx F σ B H hE hO _ fun v B1 H1 e1 O1 p1 => ⟨k, p1, hQ _ B1 H1 e1 O1 rfl⟩
theorem d_if {k : Bool} (ht : DT c Γ ω d (· = k) ω1) (ha : k = true → DE c Γ ω1 a S ω2) (hb : k = false → DE c Γ ω1 b S ω2) : DE c Γ ω (.IfExp d a b pos) S ω2 := by
  intro X fx F σ B H hE hO Q hQ
  refine tW.of (pe_ifExp pt_w pe_w pe_w) ?_
  refine ht X fx F σ B H hE hO _ fun v B1 H1 e1 O1 p1 => ?_
  have p1 : v = k := p1
  subst p1
  cases v with
  | true => exact ha rfl X fx F σ B1 H1 (hE.mono e1) O1 _ fun u B2 H2 e2 O2 p2 => hQ u B2 H2 (e1.trans e2) O2 p2
  | false => exact hb rfl X fx F σ B1 H1 (hE.mono e1) O1 _ fun u B2 H2 e2 O2 p2 => hQ u B2 H2 (e1.trans e2) O2 p2

/-! ### arguments, displays -/
theorem a_nil : DA c Γ ω [] [] ω := fun X fx F σ B H hE hO Q hQ => tA.of pa_nil (hQ [] B H (Ex.refl B) hO .nil)
theorem a_cons {ss : List Sh} (ha : DE c Γ ω e S ω1) (hr : DA c Γ ω1 es ss ω2) (hs : ∀ env, starEach (e :: es) env = (false, eval e env) :: starEach es env := by intro _; rfl) : DA c Γ ω (e :: es) (S :: ss) ω2 := by
  intro X fx F σ B H hE hO Q hQ
  refine tA.of (pa_cons pe_w pa_w (hs _)) ?_
  refine ha X fx F σ B H hE hO _ fun v B1 H1 e1 O1 p1 => ?_
  exact hr X fx F σ B1 H1 (hE.mono e1) O1 _ fun vs B2 H2 e2 O2 p2 => hQ _ B2 H2 (e1.trans e2) O2 (.cons (S.mono e2 p1) p2)
theorem d_tup {ss : List Sh} {x1} (h : DA c Γ ω es ss ω1) (hl : ss.length ≤ sizeLine := by show _ ≤ 16777216; simp) : DE c Γ ω (.Tuple es x1 pos) (U ss) ω1 := by
  intro X fx F σ B H hE hO Q hQ
  refine tW.of (pe_tup pa_w) ?_
  refine h X fx F σ B H hE hO _ fun vs B1 H1 e1 O1 p1 => ⟨by rw [p1.len]; exact hl, fun p hp => ?_⟩
  obtain ⟨O2, e2⟩ := O1.new (o := .tup vs) hp
  exact hQ _ _ _ (e1.trans e2) O2 ⟨p, vs, rfl, upd_same, p1.mp fun _ s q => s.mono e2 q⟩
/-- a new list of one kind -/
theorem d_lst {α : Type} {R : α → Sh} {xs : List α} (h : DA c Γ ω es (xs.map R) ω1) (hl : xs.length ≤ sizeLine := by show _ ≤ 16777216; simp) : DE c Γ ω (.List es pos) (L R xs) ω1 := by
  intro X fx F σ B H hE hO Q hQ
  refine tW.of (pe_lst pa_w) ?_
  refine h X fx F σ B H hE hO _ fun vs B1 H1 e1 O1 p1 => ⟨by rw [p1.len, List.length_map]; exact hl, fun p hp => ?_⟩
  obtain ⟨O2, e2⟩ := O1.new (o := .lst vs) hp
  exact hQ _ _ _ (e1.trans e2) O2 ⟨p, vs, rfl, upd_same, (All2.of_map p1).mp fun _ s q => (R s).mono e2 q⟩
end
end ZZ

set_option maxHeartbeats 2000000
/-! Z3: subscripts, slices, built-ins, calls of defs. -/
namespace ZZ
open PySem PySem.Spec PyProof.Rows L2
open Evl (Ex)
def Glo (sc : Scope) (x : Str) : Prop := sc.names.lookup x = some .globalImplicit
def rTupS (K : PySem.W.Frag) : List V → Hp → VK → Prop := fun xs H Q => ∃ p ys, xs = [.ref p] ∧ ((SqL K H p ys ∧ ∀ l, H l = none → Q (.ref l) (upd H l (.tup ys))) ∨ (SqT K H p ys ∧ Q (.ref p) H))

/-! ### places -/
theorem All2.atI {α β : Type} {R : α → β → Prop} {l : List α} {m : List β} {k : Int} {x : β} (h : All2 R l m) (e : L2.atI m k = some x) : ∃ v, L2.atI l k = some v ∧ R v x := by
  unfold L2.atI at e ⊢
  rw [h.len]
  cases q : ixN m.length k with
  | none => rw [q] at e; cases e
  | some j =>
    rw [q] at e
    exact h.get e
/-- xs[lo:hi] -/
def cut {α : Type} (xs : List α) (lo hi : Option Int) : List α := (xs.drop (HT.sIx xs.length 0 lo)).take (HT.sIx xs.length xs.length hi - HT.sIx xs.length 0 lo)
theorem All2.cut {β : Type} {R : V → β → Prop} {l : List V} {m : List β} (h : All2 R l m) (lo hi : Option Int) : All2 R (cutV l lo hi) (cut m lo hi) := by
  unfold cutV ZZ.cut
  rw [h.len]
  exact (h.drop _).take _
theorem cut_take {α : Type} {xs : List α} {k : Nat} : cut xs none (some (k : Int)) = xs.take k := by
  unfold cut
  rw [HT.sIx_none, HT.sIx_nat, Nat.sub_zero, List.drop_zero]
  by_cases h : k ≤ xs.length
  · rw [Nat.min_eq_left h]
  · rw [Nat.min_eq_right (by omega), List.take_of_length_le (Nat.le_refl _), List.take_of_length_le (by omega)]
theorem cut_drop {α : Type} {xs : List α} {k : Nat} : cut xs (some (k : Int)) none = xs.drop k := by
  unfold cut
  rw [HT.sIx_none, HT.sIx_nat]
  by_cases h : k ≤ xs.length
  · rw [Nat.min_eq_left h]
    exact List.take_of_length_le (by rw [List.length_drop]; exact Nat.le_refl _)
  · rw [Nat.min_eq_right (by omega), List.drop_of_length_le (Nat.le_refl _), List.drop_of_length_le (by omega), List.take_nil]
theorem cut_both {α : Type} {xs : List α} {j k : Nat} (h : j ≤ k) : cut xs (some (j : Int)) (some (k : Int)) = (xs.take k).drop j := by
  unfold cut
  rw [HT.sIx_nat, HT.sIx_nat, List.drop_take]
  by_cases h1 : k ≤ xs.length
  · rw [Nat.min_eq_left h1, Nat.min_eq_left (by omega)]
  · by_cases h2 : j ≤ xs.length
    · rw [Nat.min_eq_left h2, Nat.min_eq_right (by omega), List.take_of_length_le (by rw [List.length_drop]; omega), List.take_of_length_le (by rw [List.length_drop]; omega)]
    · rw [Nat.min_eq_right (by omega), Nat.min_eq_right (by omega), List.drop_of_length_le (Nat.le_refl _), List.drop_of_length_le (by omega), List.take_nil, List.take_nil]

inductive Hold : Ws → Addr → Co → Prop
  | z {ω l C} : Hold ((l, C) :: ω) l C
  | s {ω e l C} : Hold ω l C → Hold (e :: ω) l C
theorem Hold.mem {ω : Ws} {l : Addr} {C : Co} (h : Hold ω l C) : (l, C) ∈ ω := by
  induction h with
  | z => exact List.mem_cons_self
  | s _ ih => exact List.mem_cons_of_mem _ ih

section
variable {c : Cc} {Γ : En} {ω ω1 ω2 ω3 : Ws} {a b d e : Expr} {es : List Expr} {S SA SB T : Sh} {R R1 R2 : Bool → Prop} {pos p p2 : Pos} {x : Str} {α : Type} {Rs : α → Sh} {xs : List α} {bb : Bool} {k : Int} {y : α}

theorem sq_get {B H : Hp} {v : V} (h : (Sq bb Rs xs).p B v) (e : Ex B H) : ∃ a vs, v = .ref a ∧ H a = some (if bb then .lst vs else .tup vs) ∧ All2 (fun v x => (Rs x).p B v) vs xs :=
  let ⟨a, vs, h1, h2, h3⟩ := h; ⟨a, vs, h1, e a _ h2, h3⟩
/-! ### a[i] -/
theorem d_ix (ha : DE c Γ ω a (Sq bb Rs xs) ω1) (hb : DE c Γ ω1 b (I k) ω2) (h : L2.atI xs k = some y) (hs : PlainIx b := by exact fun _ _ => rfl) : DE c Γ ω (.Subscript a b pos) (Rs y) ω2 := by
  intro X fx F σ B H hE hO Q hQ
  have go : ∀ (r : L2.R2), IxR X r → (∀ v u B2 H2, (Sq bb Rs xs).p B2 v → u = V.int k → Ex B2 H2 → (∀ z, (Rs y).p B2 z → Q z H2) → r v u H2 Q) → tW X (.Subscript a b pos) σ H Q := fun r hr hh => by
    refine tW.of (pe_ix hr pe_w pe_w hs) ?_
    refine ha X fx F σ B H hE hO _ fun v B1 H1 e1 O1 p1 => ?_
    refine hb X fx F σ B1 H1 (hE.mono e1) O1 _ fun u B2 H2 e2 O2 p2 => ?_
    exact hh v u B2 H2 ((Sq bb Rs xs).mono e2 p1) p2 O2.ex fun z q => hQ z B2 H2 (e1.trans e2) O2 q
  cases bb with
  | true =>
    refine go _ ix_list fun v u B2 H2 p1 p2 e q => ?_
    obtain ⟨a', vs, rfl, h2, h3⟩ := sq_get p1 e
    obtain ⟨z, e1, e2⟩ := h3.atI h
    exact ⟨a', vs, k, z, rfl, p2, SqL.of h2, e1, q z e2⟩
  | false =>
    refine go _ ix_tup fun v u B2 H2 p1 p2 e q => ?_
    obtain ⟨a', vs, rfl, h2, h3⟩ := sq_get p1 e
    obtain ⟨z, e1, e2⟩ := h3.atI h
    exact ⟨a', vs, k, z, rfl, p2, SqT.of h2, e1, q z e2⟩
theorem d_ixU {ss : List Sh} (ha : DE c Γ ω a (U ss) ω1) (hb : DE c Γ ω1 b (I k) ω2) (h : L2.atI ss k = some S) (hs : PlainIx b := by exact fun _ _ => rfl) : DE c Γ ω (.Subscript a b pos) S ω2 := by
  intro X fx F σ B H hE hO Q hQ
  refine tW.of (pe_ix ix_tup pe_w pe_w hs) ?_
  refine ha X fx F σ B H hE hO _ fun v B1 H1 e1 O1 p1 => ?_
  refine hb X fx F σ B1 H1 (hE.mono e1) O1 _ fun u B2 H2 e2 O2 p2 => ?_
  obtain ⟨a', vs, rfl, h2, h3⟩ := (U ss).mono e2 p1
  obtain ⟨z, q1, q2⟩ := h3.atI h
  exact ⟨a', vs, k, z, rfl, p2, SqT.of (O2.ex _ _ h2), q1, hQ z B2 H2 (e1.trans e2) O2 q2⟩
/-- .. of a list that is owned -/
theorem d_ixO {l : Addr} (ha : DE c Γ ω a (At l) ω1) (hb : DE c Γ ω1 b (I k) ω2) (hm : Hold ω2 l (Cl Rs xs)) (h : L2.atI xs k = some y) (hs : PlainIx b := by exact fun _ _ => rfl) : DE c Γ ω (.Subscript a b pos) (Rs y) ω2 := by
  intro X fx F σ B H hE hO Q hQ
  refine tW.of (pe_ix ix_list pe_w pe_w hs) ?_
  refine ha X fx F σ B H hE hO _ fun v B1 H1 e1 O1 p1 => ?_
  refine hb X fx F σ B1 H1 (hE.mono e1) O1 _ fun u B2 H2 e2 O2 p2 => ?_
  obtain ⟨_, _, o, h2, vs, rfl, h3⟩ := O2.ow _ _ hm.mem
  obtain ⟨z, q1, q2⟩ := h3.atI h
  exact ⟨l, vs, k, z, p1, p2, SqL.of h2, q1, hQ z B2 H2 (e1.trans e2) O2 q2⟩

/-! ### slices -/
def DO (c : Cc) (Γ : En) (ω : Ws) (o : Option Expr) (v : Option Int) (ω' : Ws) : Prop :=
  match o, v with
  | none, none => ω' = ω
  | some e, some i => DE c Γ ω e (I i) ω'
  | _, _ => False
def tO (X : Cx) (o : Option Expr) : TO := match o with
  | none => tNoPart
  | some e => tPart (tW X e)
theorem po_w {X : Cx} : ∀ {o : Option Expr}, PO X o (tO X o)
  | none => po_none
  | some _ => po_some pe_w
theorem DO.run {o : Option Expr} {v : Option Int} (h : DO c Γ ω o v ω1) {X : Cx} (fx : Fits c (Γ.map (·.1)) X) {F : Hp} {σ : L2.St} {B H : Hp} (hE : EnvOk Γ σ B) (hO : Own F ω B H) {Q : Option Int → Hp → Prop} (hQ : ∀ B' H', Ex B B' → Own F ω1 B' H' → Q v H') : tO X o σ H Q := by
  cases o with
  | none =>
    cases v with
    | none => have h : ω1 = ω := h; subst h; exact hQ B H (Ex.refl B) hO
    | some i => exact False.elim h
  | some e =>
    cases v with
    | none => exact False.elim h
    | some i => exact DE.run_ h fx hE hO hQ
where
  DE.run_ {e : Expr} {i : Int} (h : DE c Γ ω e (I i) ω1) {X : Cx} (fx : Fits c (Γ.map (·.1)) X) {F : Hp} {σ : L2.St} {B H : Hp} (hE : EnvOk Γ σ B) (hO : Own F ω B H) {Q : Option Int → Hp → Prop} (hQ : ∀ B' H', Ex B B' → Own F ω1 B' H' → Q (some i) H') : tPart (tW X e) σ H Q :=
    h X fx F σ B H hE hO _ fun v B1 H1 e1 O1 p1 => ⟨i, p1, hQ B1 H1 e1 O1⟩
theorem o_none : DO c Γ ω none none ω := rfl
theorem o_some (h : DE c Γ ω e (I k) ω1) : DO c Γ ω (some e) (some k) ω1 := h
theorem d_sl {lo hi : Option Expr} {i j : Option Int} (ha : DE c Γ ω a (Sq bb Rs xs) ω1) (hl : DO c Γ ω1 lo i ω2) (hh : DO c Γ ω2 hi j ω3) : DE c Γ ω (.Subscript a (.Slice lo hi none p2) pos) (Sq bb Rs (cut xs i j)) ω3 := by
  intro X fx F σ B H hE hO Q hQ
  have go : ∀ (r : V → Option Int → Option Int → Hp → VK → Prop), SlR X r → (∀ v B2 H2, Ex B B2 → (Sq bb Rs xs).p B2 v → Own F ω3 B2 H2 → r v i j H2 Q) → tW X (.Subscript a (.Slice lo hi none p2) pos) σ H Q := fun r hr hh' => by
    refine tW.of (pe_slice hr pe_w po_w po_w) ?_
    refine ha X fx F σ B H hE hO _ fun v B1 H1 e1 O1 p1 => ?_
    refine hl.run fx (hE.mono e1) O1 fun B2 H2 e2 O2 => ?_
    refine hh.run fx (hE.mono (e1.trans e2)) O2 fun B3 H3 e3 O3 => ?_
    exact hh' v B3 H3 ((e1.trans e2).trans e3) ((Sq bb Rs xs).mono (e2.trans e3) p1) O3
  cases bb with
  | true =>
    refine go _ sl_list fun v B2 H2 e2 p1 O2 => ?_
    obtain ⟨a', vs, rfl, h2, h3⟩ := sq_get p1 O2.ex
    refine ⟨a', vs, rfl, SqL.of h2, fun q hq => ?_⟩
    obtain ⟨O4, e4⟩ := O2.new (o := .lst (cutV vs i j)) hq
    exact hQ _ _ _ (e2.trans e4) O4 ⟨q, _, rfl, upd_same, (h3.cut i j).mp fun _ s z => (Rs s).mono e4 z⟩
  | false =>
    refine go _ sl_tupA fun v B2 H2 e2 p1 O2 => ?_
    have p0 := p1
    obtain ⟨a', vs, rfl, h2, h3⟩ := sq_get p1 O2.ex
    refine ⟨a', vs, rfl, SqT.of h2, fun hw => ?_, fun _ q hq => ?_⟩
    · have hc : cut xs i j = xs := by
        unfold cut
        have hl := h3.len
        rw [← hl, hw.1, hw.2, List.drop_zero, Nat.sub_zero, hl, List.take_length]
      rw [hc] at hQ
      exact hQ _ _ _ e2 O2 p0
    · obtain ⟨O4, e4⟩ := O2.new (o := .tup (cutV vs i j)) hq
      exact hQ _ _ _ (e2.trans e4) O4 ⟨q, _, rfl, upd_same, (h3.cut i j).mp fun _ s z => (Rs s).mono e4 z⟩

/-! ### list + list -/
theorem d_cat {ys : List α} (ha : DE c Γ ω a (L Rs xs) ω1) (hb : DE c Γ ω1 b (L Rs ys) ω2) (hl : xs.length + ys.length ≤ sizeLine) : DE c Γ ω (.BinOp a .Add b pos) (L Rs (xs ++ ys)) ω2 :=
  d_bin (fun _ => op_cat) ha hb fun F ω B H v u h1 h2 O Q q => by
    obtain ⟨a1, vs, rfl, g1, g2⟩ := sq_get h1 O.ex
    obtain ⟨b1, us, rfl, k1, k2⟩ := sq_get h2 O.ex
    refine ⟨a1, b1, vs, us, rfl, rfl, g1, k1, by rw [g2.len, k2.len]; exact hl, fun p hp => ?_⟩
    obtain ⟨O4, e4⟩ := O.new (o := .lst (vs ++ us)) hp
    exact q _ _ _ e4 O4 ⟨p, _, rfl, upd_same, (g2.append k2).mp fun _ s z => (Rs s).mono e4 z⟩

/-! ### built-ins -/
theorem gl_of {X : Cx} {N : List Str} (fx : Fits c N X) (h : Glo c.sc x) : Gl X x := by
  show X.env.scope.names.lookup x = _
  rw [fx.sc]; exact h
theorem d_callB {id : String} {r : List V → Hp → VK → Prop} {ss : List Sh} (hc : ∀ X, Fits c (Γ.map (·.1)) X → CallR X (.builtin id) r) (hg : Glo c.sc x) (hm : c.M.mg x = none) (hv : bootBuiltins x = some (.builtin id))
    (ha : DA c Γ ω (e :: es) ss ω1) (hr : RC r ss S) (hn : x ≠ "__name__" := by decide) (hdb : (x == ("__debug__" : Str)) = false := by decide)
    (he : ∀ env, starEach (e :: es) env = (false, eval e env) :: starEach es env := by intro _; rfl) (hpl : ∀ env, (backTo pos (starEach es env)).any (·.1) = false := by intro _; rfl) : DE c Γ ω (.Call (.Name x p) (e :: es) [] pos) S ω1 := by
  intro X fx F σ B H hE hO Q hQ
  refine tW.of (pe_callB (hc X fx) (gl_of fx hg) (by rw [fx.mg]; exact hm) hv pa_w hn hdb (he _) (hpl _)) ?_
  refine ha X fx F σ B H hE hO _ fun vs B1 H1 e1 O1 p1 => ?_
  exact hr F ω1 B1 H1 vs p1 O1 Q fun z B' H' e3 O3 p3 => hQ z B' H' (e1.trans e3) O3 p3
theorem d_callTy {id : String} {r : List V → Hp → VK → Prop} {ss : List Sh} (hc : ∀ X, Fits c (Γ.map (·.1)) X → CallR X (.type id) r) (hg : Glo c.sc x) (hm : c.M.mg x = none) (hv : bootBuiltins x = some (.type id))
    (ha : DA c Γ ω (e :: es) ss ω1) (hr : RC r ss S) (hn : x ≠ "__name__" := by decide) (hdb : (x == ("__debug__" : Str)) = false := by decide)
    (he : ∀ env, starEach (e :: es) env = (false, eval e env) :: starEach es env := by intro _; rfl) (hpl : ∀ env, (backTo pos (starEach es env)).any (·.1) = false := by intro _; rfl) : DE c Γ ω (.Call (.Name x p) (e :: es) [] pos) S ω1 := by
  intro X fx F σ B H hE hO Q hQ
  refine tW.of (pe_callTy (hc X fx) (gl_of fx hg) (by rw [fx.mg]; exact hm) hv pa_w hn hdb (he _) (hpl _)) ?_
  refine ha X fx F σ B H hE hO _ fun vs B1 H1 e1 O1 p1 => ?_
  exact hr F ω1 B1 H1 vs p1 O1 Q fun z B' H' e3 O3 p3 => hQ z B' H' (e1.trans e3) O3 p3
theorem all1 {B : Hp} {vs : List V} {s : Sh} (h : All2 (fun v (s : Sh) => s.p B v) vs [s]) : ∃ v, vs = [v] ∧ s.p B v := by
  cases h with
  | cons h t => cases t; exact ⟨_, rfl, h⟩
theorem all2 {B : Hp} {vs : List V} {s t : Sh} (h : All2 (fun v (s : Sh) => s.p B v) vs [s, t]) : ∃ v u, vs = [v, u] ∧ s.p B v ∧ t.p B u := by
  cases h with
  | cons h t =>
    obtain ⟨u, rfl, q⟩ := all1 t
    exact ⟨_, u, rfl, h, q⟩
theorem rc1 {r : List V → Hp → VK → Prop} {s : Sh} (h : ∀ F ω B H v, s.p B v → Own F ω B H → ∀ Q : VK, (∀ z B' H', Ex B B' → Own F ω B' H' → S.p B' z → Q z H') → r [v] H Q) : RC r [s] S := fun F ω B H vs hv O Q q => by
  obtain ⟨v, rfl, h1⟩ := all1 hv
  exact h F ω B H v h1 O Q q
theorem rc2 {r : List V → Hp → VK → Prop} {s t : Sh} (h : ∀ F ω B H v u, s.p B v → t.p B u → Own F ω B H → ∀ Q : VK, (∀ z B' H', Ex B B' → Own F ω B' H' → S.p B' z → Q z H') → r [v, u] H Q) : RC r [s, t] S := fun F ω B H vs hv O Q q => by
  obtain ⟨v, u, rfl, h1, h2⟩ := all2 hv
  exact h F ω B H v u h1 h2 O Q q
theorem d_len (ha : DE c Γ ω a (Sq bb Rs xs) ω1) (hm : c.M.mg "len" = none) (hg : Glo c.sc "len" := by exact rfl) (he : ∀ env, starEach [a] env = (false, eval a env) :: starEach [] env := by intro _; rfl) : DE c Γ ω (.Call (.Name "len" p) [a] [] pos) (I (xs.length : Int)) ω1 :=
  d_callB (r := Evl.rLenS c.M.K) (fun X fx => by rw [← fx.K]; exact call_len_seq) hg hm PySem.boot_len (a_cons ha a_nil he) (rc1 fun F ω B H v hv O Q q => by
    obtain ⟨a1, vs, rfl, g1, g2⟩ := sq_get hv O.ex
    refine ⟨a1, vs, rfl, ?_, q _ B H (Ex.refl B) O (by show V.int _ = V.int _; rw [g2.len])⟩
    cases bb with
    | true => exact .inl (SqL.of g1)
    | false => exact .inr (SqT.of g1)) (he := he)
theorem d_lenO {l : Addr} (ha : DE c Γ ω a (At l) ω1) (hh : Hold ω1 l (Cl Rs xs)) (hm : c.M.mg "len" = none) (hg : Glo c.sc "len" := by exact rfl) (he : ∀ env, starEach [a] env = (false, eval a env) :: starEach [] env := by intro _; rfl) : DE c Γ ω (.Call (.Name "len" p) [a] [] pos) (I (xs.length : Int)) ω1 := by
  intro X fx F σ B H hE hO Q hQ
  refine tW.of (pe_callB call_len_seq (gl_of fx hg) (by rw [fx.mg]; exact hm) PySem.boot_len pa_w (he := he _)) ?_
  refine a_cons ha a_nil he X fx F σ B H hE hO _ fun vs B1 H1 e1 O1 p1 => ?_
  obtain ⟨v, rfl, hv⟩ := all1 p1
  obtain ⟨_, _, o, h2, us, rfl, h3⟩ := O1.ow _ _ hh.mem
  exact ⟨l, us, by rw [show v = V.ref l from hv], .inl (SqL.of h2), hQ _ B1 H1 e1 O1 (by show V.int _ = V.int _; rw [h3.len])⟩
theorem d_lenU {ss : List Sh} (ha : DE c Γ ω a (U ss) ω1) (hm : c.M.mg "len" = none) (hg : Glo c.sc "len" := by exact rfl) (he : ∀ env, starEach [a] env = (false, eval a env) :: starEach [] env := by intro _; rfl) : DE c Γ ω (.Call (.Name "len" p) [a] [] pos) (I (ss.length : Int)) ω1 :=
  d_callB (r := Evl.rLenS c.M.K) (fun X fx => by rw [← fx.K]; exact call_len_seq) hg hm PySem.boot_len (a_cons ha a_nil he) (rc1 fun F ω B H v hv O Q q => by
    obtain ⟨a1, vs, rfl, g1, g2⟩ := hv
    exact ⟨a1, vs, rfl, .inr (SqT.of (O.ex _ _ g1)), q _ B H (Ex.refl B) O (by show V.int _ = V.int _; rw [g2.len])⟩) (he := he)
section
variable {i j : Int}
theorem d_max2 (ha : DE c Γ ω a (I i) ω1) (hb : DE c Γ ω1 b (I j) ω2) (hm : c.M.mg "max" = none) (hg : Glo c.sc "max" := by exact rfl) (he : ∀ env, starEach [a, b] env = (false, eval a env) :: starEach [b] env := by intro _; rfl)
    (he2 : ∀ env, starEach [b] env = (false, eval b env) :: starEach [] env := by intro _; rfl) (hpl : ∀ env, (backTo pos (starEach [b] env)).any (·.1) = false := by intro _; rfl) : DE c Γ ω (.Call (.Name "max" p) [a, b] [] pos) (I (max i j)) ω2 :=
  d_callB (fun _ fx => call_max2 fx.calm) hg hm PyProof.Rows.boot_max (a_cons ha (a_cons hb a_nil he2) he) (rc2 fun F ω B H v u h1 h2 O Q q => by
    have h1 : v = .int i := h1
    have h2 : u = .int j := h2
    subst h1 h2
    refine ⟨i, j, rfl, q _ B H (Ex.refl B) O ?_⟩
    show V.int _ = V.int _
    congr 1
    split <;> omega) (he := he) (hpl := hpl)
theorem d_min2 (ha : DE c Γ ω a (I i) ω1) (hb : DE c Γ ω1 b (I j) ω2) (hm : c.M.mg "min" = none) (hg : Glo c.sc "min" := by exact rfl) (he : ∀ env, starEach [a, b] env = (false, eval a env) :: starEach [b] env := by intro _; rfl)
    (he2 : ∀ env, starEach [b] env = (false, eval b env) :: starEach [] env := by intro _; rfl) (hpl : ∀ env, (backTo pos (starEach [b] env)).any (·.1) = false := by intro _; rfl) : DE c Γ ω (.Call (.Name "min" p) [a, b] [] pos) (I (min i j)) ω2 :=
  d_callB (fun _ fx => call_min2 fx.calm) hg hm PyProof.Rows.boot_min (a_cons ha (a_cons hb a_nil he2) he) (rc2 fun F ω B H v u h1 h2 O Q q => by
    have h1 : v = .int i := h1
    have h2 : u = .int j := h2
    subst h1 h2
    refine ⟨i, j, rfl, q _ B H (Ex.refl B) O ?_⟩
    show V.int _ = V.int _
    congr 1
    split <;> omega) (he := he) (hpl := hpl)
theorem d_intI (ha : DE c Γ ω a (I i) ω1) (hm : c.M.mg "int" = none) (hg : Glo c.sc "int" := by exact rfl) (he : ∀ env, starEach [a] env = (false, eval a env) :: starEach [] env := by intro _; rfl) : DE c Γ ω (.Call (.Name "int" p) [a] [] pos) (I i) ω1 :=
  d_callTy (fun _ _ => call_int1) hg hm PyProof.Rows.boot_int (a_cons ha a_nil he) (rc1 fun F ω B H v hv O Q q => by
    have hv : v = .int i := hv
    subst hv
    exact .inl ⟨i, rfl, q _ B H (Ex.refl B) O rfl⟩) (he := he)
theorem d_intB {k : Bool} (ha : DE c Γ ω a (Bo k) ω1) (hm : c.M.mg "int" = none) (hg : Glo c.sc "int" := by exact rfl) (he : ∀ env, starEach [a] env = (false, eval a env) :: starEach [] env := by intro _; rfl) : DE c Γ ω (.Call (.Name "int" p) [a] [] pos) (I (if k then 1 else 0)) ω1 :=
  d_callTy (fun _ _ => call_int1) hg hm PyProof.Rows.boot_int (a_cons ha a_nil he) (rc1 fun F ω B H v hv O Q q => by
    have hv : v = .bl k := hv
    subst hv
    exact .inr ⟨k, rfl, q _ B H (Ex.refl B) O rfl⟩) (he := he)
end
theorem sq_ints {B : Hp} : ∀ {vs : List V} {ns : List Int}, All2 (fun v x => (I x).p B v) vs ns → vs = ns.map V.int
  | _, _, .nil => rfl
  | _, _, .cons h t => by
    have h : _ = V.int _ := h
    rw [h, sq_ints t]; rfl
theorem d_sum {ns : List Int} (ha : DE c Γ ω a (L I ns) ω1) (hm : c.M.mg "sum" = none) (hg : Glo c.sc "sum" := by exact rfl) (he : ∀ env, starEach [a] env = (false, eval a env) :: starEach [] env := by intro _; rfl) : DE c Γ ω (.Call (.Name "sum" p) [a] [] pos) (I ns.sum) ω1 :=
  d_callB (r := rSum c.M.K) (fun X fx => by rw [← fx.K]; exact cr_sum fx.calm) hg hm PyProof.Rows.boot_sum (a_cons ha a_nil he) (rc1 fun F ω B H v hv O Q q => by
    obtain ⟨a1, vs, rfl, g1, g2⟩ := sq_get hv O.ex
    have e := sq_ints g2
    subst e
    exact ⟨a1, ns, rfl, SqL.of g1, q _ B H (Ex.refl B) O rfl⟩) (he := he)
theorem d_list (ha : DE c Γ ω a (Sq bb Rs xs) ω1) (hm : c.M.mg "list" = none) (hg : Glo c.sc "list" := by exact rfl) (he : ∀ env, starEach [a] env = (false, eval a env) :: starEach [] env := by intro _; rfl) : DE c Γ ω (.Call (.Name "list" p) [a] [] pos) (L Rs xs) ω1 :=
  d_callTy (r := Evl.rListS c.M.K) (fun X fx => by rw [← fx.K]; exact call_list_of) hg hm PyProof.Rows.boot_list (a_cons ha a_nil he) (rc1 fun F ω B H v hv O Q q => by
    obtain ⟨a1, vs, rfl, g1, g2⟩ := sq_get hv O.ex
    refine ⟨a1, vs, rfl, ?_, fun l hl => ?_⟩
    · cases bb with
      | true => exact .inl (SqL.of g1)
      | false => exact .inr (SqT.of g1)
    · obtain ⟨O4, e4⟩ := O.new (o := .lst vs) hl
      exact q _ _ _ e4 O4 ⟨l, _, rfl, upd_same, g2.mp fun _ s z => (Rs s).mono e4 z⟩) (he := he)
theorem d_tuple (ha : DE c Γ ω a (Sq bb Rs xs) ω1) (hm : c.M.mg "tuple" = none) (hg : Glo c.sc "tuple" := by exact rfl) (he : ∀ env, starEach [a] env = (false, eval a env) :: starEach [] env := by intro _; rfl) : DE c Γ ω (.Call (.Name "tuple" p) [a] [] pos) (Sq false Rs xs) ω1 :=
  d_callTy (r := rTupS c.M.K) (fun X fx => by rw [← fx.K]; exact call_tuple_of) hg hm PyProof.Rows.boot_tuple (a_cons ha a_nil he) (rc1 fun F ω B H v hv O Q q => by
    have hv0 := hv
    obtain ⟨a1, vs, rfl, g1, g2⟩ := sq_get hv O.ex
    refine ⟨a1, vs, rfl, ?_⟩
    cases bb with
    | true =>
      refine .inl ⟨SqL.of g1, fun l hl => ?_⟩
      obtain ⟨O4, e4⟩ := O.new (o := .tup vs) hl
      exact q _ _ _ e4 O4 ⟨l, _, rfl, upd_same, g2.mp fun _ s z => (Rs s).mono e4 z⟩
    | false => exact .inr ⟨SqT.of g1, q _ B H (Ex.refl B) O hv0⟩) (he := he)
/-- isinstance(x, T), T a built-in type -/
def TyS (K : PySem.W.Frag) (S : Sh) (n : String) : Prop := ∀ B v, S.p B v → TyX K B v (.type n)
theorem tyx_mono {K : PySem.W.Frag} {B H : Hp} {v : V} {t : Value} (e : Ex B H) (h : TyX K B v t) : TyX K H v t := by
  cases h with
  | base b =>
    refine .base ?_
    cases b with
    | non => exact .non
    | bl x => exact .bl x
    | int i => exact .int i
    | str x => exact .str x
    | flt x => exact .flt x
    | lst q => exact .lst (e _ _ q)
    | frz q => exact .frz (e _ _ q)
    | tup q => exact .tup (e _ _ q)
    | dK q => exact .dK (e _ _ q)
    | dT q => exact .dT (e _ _ q)
    | ins q a b c d f => exact .ins (e _ _ q) a b c d f
  | byt b => exact .byt b
  | set q => exact .set (e _ _ q)
  | kList q c => exact .kList q c
  | kTuple q c => exact .kTuple q c
  | kDict q c => exact .kDict q c
  | fTuple q => exact .fTuple (e _ _ q)
  | fDict q => exact .fDict (e _ _ q)
theorem ty_int {K : PySem.W.Frag} {i : Int} : TyS K (I i) "int" := fun B v h => by
  have h : v = .int i := h
  rw [h]; exact .base (.int i)
theorem ty_bool {K : PySem.W.Frag} {i : Bool} : TyS K (Bo i) "bool" := fun B v h => by
  have h : v = .bl i := h
  rw [h]; exact .base (.bl i)
theorem ty_str {K : PySem.W.Frag} {i : Str} : TyS K (Tx i) "str" := fun B v h => by
  have h : v = .str i := h
  rw [h]; exact .base (.str i)
theorem ty_none {K : PySem.W.Frag} : TyS K No "NoneType" := fun B v h => by
  have h : v = .non := h
  rw [h]; exact .base .non
theorem ty_U {K : PySem.W.Frag} {ss : List Sh} : TyS K (U ss) "tuple" := fun B v h => by
  obtain ⟨a, vs, rfl, h2, _⟩ := h
  exact .base (.tup h2)
theorem ty_tup {K : PySem.W.Frag} : TyS K (Sq false Rs xs) "tuple" := fun B v h => by
  obtain ⟨a, vs, rfl, h2, _⟩ := h
  exact .base (.tup h2)
theorem ty_lst {K : PySem.W.Frag} : TyS K (Sq true Rs xs) "list" := fun B v h => by
  obtain ⟨a, vs, rfl, h2, _⟩ := h
  exact .base (.lst h2)
theorem d_isi {n m : String} {t : Str} {k : Bool} {pt : Pos} (ha : DE c Γ ω a SA ω1) (hS : ∀ K, TyS K SA n) (hk : kitB n m = some k) (hm : c.M.mg "isinstance" = none) (hmt : c.M.mg t = none) (hbt : bootBuiltins t = some (.type m)) (hg : Glo c.sc "isinstance" := by exact rfl)
    (hgt : Glo c.sc t := by exact rfl) (hn : t ≠ "__name__" := by decide) (hdb : (t == ("__debug__" : Str)) = false := by decide) (he : ∀ env, starEach [a, .Name t pt] env = (false, eval a env) :: starEach [.Name t pt] env := by intro _; rfl) : DE c Γ ω (.Call (.Name "isinstance" p) [a, .Name t pt] [] pos) (Bo k) ω1 := by
  refine d_callB (ss := [SA, Sc (.ty m)]) (r := fun vs H Q => rIsi c.M.K vs H Q) (fun X fx => by rw [← fx.K]; exact call_isi) hg hm PyProof.Rows.boot_isinstance (a_cons ha (a_cons ?_ a_nil) he) (rc2 fun F ω B H v u h1 h2 O Q q => ?_) (he := he)
  · intro X fx F σ B H hE hO Q hQ
    exact tW.of (pe_bltn (gl_of fx hgt) (by rw [fx.mg]; exact hmt) hbt (v := .ty m) rfl hn hdb) (hQ _ B H (Ex.refl B) hO rfl)
  · exact ⟨v, u, .type n, .type m, k, rfl, by rw [show u = V.ty m from h2]; exact .ty m, tyx_mono O.ex (hS _ B v h1), kit_ty hk, q _ B H (Ex.refl B) O rfl⟩
/-- x is True, x is False -/
def rIsT : L2.R2 := fun x y H Q => ∃ k, y = .bl k ∧ Q (.bl (decide (x = .bl k))) H
theorem op_isT {X : Cx} : OpR X (compareOp .Is) rIsT := by
  intro pins s σ H x y v u Q I rx ry h
  obtain ⟨k, rfl, q⟩ := h
  cases (show u = Value.bool k from ry)
  by_cases z : x = .bl k
  · subst z
    cases (show v = Value.bool k from rx)
    exact wpAny_is_self rfl ⟨.bl true, H, I, rfl, by simpa using q⟩
  · have hne : v ≠ Value.bool k := fun e => z (by
      have := rx.inj (y := .bl k) (by rw [e]; rfl)
      exact this)
    have hp : plainIs v (.bool k) = true := by
      cases x <;> first
        | (cases rx; rfl)
        | (obtain ⟨t, rfl⟩ := rx; rfl)
    exact wpAny_is_other hp hne ⟨.bl false, H, I, rfl, by simpa [z] using q⟩
def IsTB (S : Sh) (k r : Bool) : Prop := ∀ B v, S.p B v → decide (v = V.bl k) = r
theorem istb_sc {v : V} {k : Bool} : IsTB (Sc v) k (decide (v = .bl k)) := fun B u h => by
  have h : u = v := h
  rw [h]
theorem istb_seq {k : Bool} : IsTB (Sq bb Rs xs) k false := fun B u h => by
  obtain ⟨a, vs, rfl, _⟩ := h
  rfl
theorem istb_tup {ss : List Sh} {k : Bool} : IsTB (U ss) k false := fun B u h => by
  obtain ⟨a, vs, rfl, _⟩ := h
  rfl
theorem t_isT {k r : Bool} {j p'} (ha : DE c Γ ω a SA ω1) (h : IsTB SA k r) : DT c Γ ω (.Compare a [.Is] [.Constant (.bool k) j p'] pos) (· = r) ω1 :=
  t_cmp (fun _ _ => op_isT) ha d_bool (fun F ω B H v u h1 h2 O Q q => ⟨k, h2, q _ B H (Ex.refl B) O ⟨_, h _ _ h1, rfl⟩⟩) (nomark _)
theorem d_isT {k r : Bool} {j p'} (ha : DE c Γ ω a SA ω1) (h : IsTB SA k r) : DE c Γ ω (.Compare a [.Is] [.Constant (.bool k) j p'] pos) (Bo r) ω1 :=
  d_cmp (fun _ _ => op_isT) ha d_bool (fun F ω B H v u h1 h2 O Q q => ⟨k, h2, q _ B H (Ex.refl B) O (by show V.bl _ = V.bl _; rw [h _ _ h1])⟩) (nomark _)
/-- data == data -/
def IsD (S : Sh) (d : PyData) : Prop := ∀ K B v, S.p B v → Dp K B v d
theorem dp_mono {K : PySem.W.Frag} {B H : Hp} (e : Ex B H) : ∀ {v : V} {d : PyData}, Dp K B v d → Dp K H v d := by
  intro v d h
  exact Dp.rec (motive_1 := fun v d _ => Dp K H v d) (motive_2 := fun vs ds _ => DpAll K H vs ds) .non .bl .int .str (fun hs _ ih => .lst (Evl.ex_l e hs) ih) (fun hs _ ih => .tup (Evl.ex_t e hs) ih) .nil (fun _ _ h1 h2 => .cons h1 h2) h
theorem isd_int {i : Int} : IsD (I i) (.int i) := fun K B v h => by
  have h : v = .int i := h
  rw [h]; exact .int i
theorem isd_str {i : Str} : IsD (Tx i) (.str i) := fun K B v h => by
  have h : v = .str i := h
  rw [h]; exact .str i
theorem isd_bool {i : Bool} : IsD (Bo i) (.bool i) := fun K B v h => by
  have h : v = .bl i := h
  rw [h]; exact .bl i
theorem isd_none : IsD No .none := fun K B v h => by
  have h : v = .non := h
  rw [h]; exact .non
theorem isd_all {f : α → PyData} (hf : ∀ x, IsD (Rs x) (f x)) (K : PySem.W.Frag) (B : Hp) : ∀ {vs : List V} {xs : List α}, All2 (fun v x => (Rs x).p B v) vs xs → DpAll K B vs (xs.map f)
  | _, _, .nil => .nil
  | _, _, .cons h t => .cons (hf _ K B _ h) (isd_all hf K B t)
theorem isd_seq {f : α → PyData} (hf : ∀ x, IsD (Rs x) (f x)) : IsD (Sq bb Rs xs) (if bb then .list (xs.map f) else .tuple (xs.map f)) := fun K B v h => by
  obtain ⟨a, vs, rfl, h2, h3⟩ := h
  cases bb with
  | true => exact .lst (SqL.of h2) (isd_all hf K B h3)
  | false => exact .tup (SqT.of h2) (isd_all hf K B h3)
inductive IsDs : List Sh → List PyData → Prop
  | nil : IsDs [] []
  | cons {s d ss ds} : IsD s d → IsDs ss ds → IsDs (s :: ss) (d :: ds)
theorem IsDs.all (K : PySem.W.Frag) (B : Hp) : ∀ {ss : List Sh} {ds : List PyData} {vs : List V}, IsDs ss ds → All2 (fun v (s : Sh) => s.p B v) vs ss → DpAll K B vs ds
  | _, _, _, .nil, .nil => .nil
  | _, _, _, .cons h t, .cons q r => .cons (h K B _ q) (IsDs.all K B t r)
theorem isd_U {ss : List Sh} {ds : List PyData} (h : IsDs ss ds) : IsD (U ss) (.tuple ds) := fun K B v hv => by
  obtain ⟨a, vs, rfl, h2, h3⟩ := hv
  exact .tup (SqT.of h2) (h.all K B h3)
theorem d_eqD {d1 d2 : PyData} (ha : DE c Γ ω a SA ω1) (hb : DE c Γ ω1 b SB ω2) (h1 : IsD SA d1) (h2 : IsD SB d2) (s1 : SeqAt.shaped d1 = true) (s2 : SeqAt.shaped d2 = true) : DE c Γ ω (.Compare a [.Eq] [b] pos) (Bo (PyData.eqv d1 d2)) ω2 :=
  d_cmp (r := rEqD c.M.K) (fun X fx => by rw [← fx.K]; exact op_eqD fx.room.units) ha hb (fun F ω B H v u q1 q2 O Q q => ⟨d1, d2, dp_mono O.ex (h1 _ B v q1), dp_mono O.ex (h2 _ B u q2), s1, s2, q _ B H (Ex.refl B) O rfl⟩) (nomark _)

/-! ### calls of defs -/
/-- a def's contract -/
structure Ct (τ : Type) where
  As : τ → List Sh
  pre : τ → Prop := fun _ => True
  S : τ → Sh
  ω : τ → Ws := fun _ => []
  ω' : τ → Ws := fun _ => []
  ad : ∀ g, (ω' g).map (·.1) = (ω g).map (·.1) := by intro _; rfl
def Ct.sp {τ : Type} (t : Ct τ) : Sp := fun vs H Q _ => ∃ (g : τ) (F B : Hp), t.pre g ∧ All2 (fun v (s : Sh) => s.p B v) vs (t.As g) ∧ Own F (t.ω g) B H ∧ ∀ v B' H', Ex B B' → Own F (t.ω' g) B' H' → (t.S g).p B' v → Q v H'
/-- the def named x of the module keeps the contract -/
def Gd {τ : Type} (M : Mo) (k : Nat) (x : Str) (ps : List Str) (t : Ct τ) : Prop :=
  ∃ (f : Addr) (fd : FuncData), FnOk M.P M.w M.K M.mg M.base CX0 k f fd ps t.sp ∧ M.mg x = some (.ref f) ∧ PySem.W.keepIn M.K (.ref f) = true ∧ Binds M.K fd ps []
theorem d_call {τ : Type} {t : Ct τ} {k : Nat} {ps : List Str} {ss : List Sh} {rest : Ws} (g : τ) (G : Gd c.M k x ps t) (hk : k ≤ c.k) (ha : DA c Γ ω (e :: es) ss ω1) (hs : ss = t.As g) (hp : t.pre g) (hω : ω1 = t.ω g ++ rest)
    (hg : Glo c.sc x := by exact rfl) (hdb : (x == ("__debug__" : Str)) = false := by decide) (he : ∀ env, starEach (e :: es) env = (false, eval e env) :: starEach es env := by intro _; rfl) (hpl : ∀ env, (backTo pos (starEach es env)).any (·.1) = false := by intro _; rfl) :
    DE c Γ ω (.Call (.Name x p) (e :: es) [] pos) (t.S g) (t.ω' g ++ rest) := by
  obtain ⟨f, fd, hF, hm, hkp, hb⟩ := G
  intro X fx F σ B H hE hO Q hQ
  have hF' : FnOk X.prog X.w X.K X.mg X.base CX0 k f fd ps t.sp := by rw [fx.prog, fx.w, fx.K, fx.mg, fx.base]; exact hF
  refine tW.of (pe_call (ds := []) (dvs := []) (E := E0) hF' (fx.room.mono hk) (gl_of fx hg) (by rw [fx.mg]; exact hm) (by rw [fx.K]; exact hkp) (by rw [fx.K]; exact hb) .nil pass0 pa_w hdb (he _) (hpl _)) ?_
  refine ha X fx F σ B H hE hO _ fun vs B1 H1 e1 O1 p1 => ?_
  subst hs hω
  refine ⟨g, frame F rest H1, B1, hp, by rw [List.append_nil]; exact p1, O1.focus, fun v B' H' e2 O2 p2 => ?_⟩
  exact hQ v B' H' (e1.trans e2) (O1.unfocus e2 O2 (t.ad g)) p2
end
end ZZ

set_option maxHeartbeats 2000000
/-! Z4: statements, loops, a def by its body. -/
namespace ZZ
open PySem PySem.Spec PyProof.Rows L2
open Evl (Ex)

/-! ### new lists -/
def DN {α : Type} (c : Cc) (Γ : En) (ω : Ws) (e : Expr) (R : α → Sh) (xs : List α) (ω' : Ws) : Prop :=
  ∀ X, Fits c (Γ.map (·.1)) X → ∀ F σ B H, EnvOk Γ σ B → Own F ω B H → ∀ Q : VK, (∀ l B' H', Ex B B' → Own F (ω' ++ [(l, Cl R xs)]) B' H' → Q (.ref l) H') → tW X e σ H Q
theorem tak_last {ω : Ws} {l : Addr} {C : Co} : Tak (ω ++ [(l, C)]) l C ω := by
  induction ω with
  | nil => exact .z
  | cons e ω ih => exact .s ih
theorem DN.frz {α : Type} {c : Cc} {Γ : En} {ω ω' : Ws} {e : Expr} {R : α → Sh} {xs : List α} (h : DN c Γ ω e R xs ω') : DE c Γ ω e (L R xs) ω' := fun X fx F σ B H hE hO Q hQ =>
  h X fx F σ B H hE hO Q fun l B' H' e1 O1 => by
    obtain ⟨o, h1, ⟨vs, rfl, h3⟩, O2, e2⟩ := O1.freeze tak_last
    exact hQ _ _ _ (e1.trans e2) O2 ⟨l, vs, rfl, upd_same, h3.mp fun _ s q => (R s).mono e2 q⟩
section
variable {c : Cc} {Γ : En} {ω ω1 ω2 ω3 : Ws} {a b e : Expr} {es : List Expr} {α : Type} {Rs : α → Sh} {xs : List α} {pos p p2 : Pos} {bb : Bool}
theorem n_lst (h : DA c Γ ω es (xs.map Rs) ω1) (hl : xs.length ≤ sizeLine := by show _ ≤ 16777216; simp) : DN c Γ ω (.List es pos) Rs xs ω1 := by
  intro X fx F σ B H hE hO Q hQ
  refine tW.of (pe_lst pa_w) ?_
  refine h X fx F σ B H hE hO _ fun vs B1 H1 e1 O1 p1 => ⟨by rw [p1.len, List.length_map]; exact hl, fun p hp => ?_⟩
  exact hQ p _ _ e1 (O1.add hp (C := Cl Rs xs) ⟨vs, rfl, All2.of_map p1⟩)
theorem n_sl {lo hi : Option Expr} {i j : Option Int} (ha : DE c Γ ω a (L Rs xs) ω1) (hl : DO c Γ ω1 lo i ω2) (hh : DO c Γ ω2 hi j ω3) : DN c Γ ω (.Subscript a (.Slice lo hi none p2) pos) Rs (cut xs i j) ω3 := by
  intro X fx F σ B H hE hO Q hQ
  refine tW.of (pe_slice sl_list pe_w po_w po_w) ?_
  refine ha X fx F σ B H hE hO _ fun v B1 H1 e1 O1 p1 => ?_
  refine hl.run fx (hE.mono e1) O1 fun B2 H2 e2 O2 => ?_
  refine hh.run fx (hE.mono (e1.trans e2)) O2 fun B3 H3 e3 O3 => ?_
  obtain ⟨a', vs, rfl, h2, h3⟩ := sq_get ((L Rs xs).mono (e2.trans e3) p1) O3.ex
  exact ⟨a', vs, rfl, SqL.of h2, fun q hq => hQ q _ _ ((e1.trans e2).trans e3) (O3.add hq (C := Cl Rs (cut xs i j)) ⟨_, rfl, h3.cut i j⟩)⟩
theorem n_list (ha : DE c Γ ω a (Sq bb Rs xs) ω1) (hm : c.M.mg "list" = none) (hg : Glo c.sc "list" := by exact rfl) (he : ∀ env, starEach [a] env = (false, eval a env) :: starEach [] env := by intro _; rfl) : DN c Γ ω (.Call (.Name "list" p) [a] [] pos) Rs xs ω1 := by
  intro X fx F σ B H hE hO Q hQ
  refine tW.of (pe_callTy call_list_of (gl_of fx hg) (by rw [fx.mg]; exact hm) PyProof.Rows.boot_list pa_w (he := he _)) ?_
  refine a_cons ha a_nil he X fx F σ B H hE hO _ fun vs B1 H1 e1 O1 p1 => ?_
  obtain ⟨v, rfl, hv⟩ := all1 p1
  obtain ⟨a1, us, rfl, g1, g2⟩ := sq_get hv O1.ex
  refine ⟨a1, us, rfl, ?_, fun l hl => hQ l _ _ e1 (O1.add hl (C := Cl Rs xs) ⟨_, rfl, g2⟩)⟩
  cases bb with
  | true => exact .inl (SqL.of g1)
  | false => exact .inr (SqT.of g1)
theorem n_cat {ys : List α} (ha : DE c Γ ω a (L Rs xs) ω1) (hb : DE c Γ ω1 b (L Rs ys) ω2) (hl : xs.length + ys.length ≤ sizeLine) : DN c Γ ω (.BinOp a .Add b pos) Rs (xs ++ ys) ω2 := by
  intro X fx F σ B H hE hO Q hQ
  refine tW.of (pe_op op_cat pe_w pe_w) ?_
  refine ha X fx F σ B H hE hO _ fun v B1 H1 e1 O1 p1 => ?_
  refine hb X fx F σ B1 H1 (hE.mono e1) O1 _ fun u B2 H2 e2 O2 p2 => ?_
  obtain ⟨a1, vs, rfl, g1, g2⟩ := sq_get ((L Rs xs).mono e2 p1) O2.ex
  obtain ⟨b1, us, rfl, k1, k2⟩ := sq_get p2 O2.ex
  exact ⟨a1, b1, vs, us, rfl, rfl, g1, k1, by rw [g2.len, k2.len]; exact hl, fun p hp => hQ p _ _ (e1.trans e2) (O2.add hp (C := Cl Rs (xs ++ ys)) ⟨_, rfl, g2.append k2⟩)⟩
end

/-- one slot told anew -/
inductive Upg : En → Str → Sh → Sh → En → Prop
  | z {Γ x S T} : Upg ((x, some S) :: Γ) x S T ((x, some T) :: Γ)
  | s {Γ e x S T Γ'} : Upg Γ x S T Γ' → Upg (e :: Γ) x S T (e :: Γ')
theorem Upg.names : ∀ {Γ Γ' : En} {x : Str} {S T : Sh}, Upg Γ x S T Γ' → Γ'.map (·.1) = Γ.map (·.1)
  | _, _, _, _, _, .z => rfl
  | _, _, _, _, _, .s h => by simp [h.names]
theorem Upg.env : ∀ {Γ Γ' : En} {x : Str} {S T : Sh} {σ : L2.St} {B : Hp}, Upg Γ x S T Γ' → (∀ v, S.p B v → T.p B v) → EnvOk Γ σ B → EnvOk Γ' σ B
  | _, _, _, _, _, [], _, .z, _, h => h.elim
  | _, _, _, _, _, _ :: _, _, .z, f, h => ⟨let ⟨v, h1, h2⟩ := h.1; ⟨v, h1, f v h2⟩, h.2⟩
  | (_, none) :: _, _, _, _, _, [], _, .s _, _, h => h.elim
  | (_, some _) :: _, _, _, _, _, [], _, .s _, _, h => h.elim
  | (_, none) :: _, _, _, _, _, _ :: σ, _, .s q, f, h => q.env (σ := σ) f h
  | (_, some _) :: _, _, _, _, _, _ :: σ, _, .s q, f, h => ⟨h.1, q.env (σ := σ) f h.2⟩

/-! ### statements -/
def Lo (c : Cc) (x : Str) : Prop := c.sc.names.lookup x = some .local ∨ (c.cl = true ∧ c.sc.names.lookup x = some .cell)
theorem Fits.re {c : Cc} {N N' : List Str} {X : Cx} (fx : Fits c N X) (e : N' = N) : Fits c N' X := e ▸ fx
theorem Fits.lo {c : Cc} {N : List Str} {X : Cx} {x : Str} (fx : Fits c N X) (h : Lo c x) : Loc X.env.scope x ∧ (X.fn x = true ∨ X.env.scope.names.lookup x = some .local) := by
  rcases h with h | h
  · exact ⟨.inl (by rw [fx.sc]; exact h), .inr (by rw [fx.sc]; exact h)⟩
  · exact ⟨.inr (by rw [fx.sc]; exact h.2), .inl (fx.cell h.1 x h.2)⟩
def Rt (B0 F : Hp) (rt : VK) (S : Sh) (ω : Ws) : Prop := ∀ v B H, Ex B0 B → Own F ω B H → S.p B v → rt v H
theorem Rt.mono {B0 B1 F : Hp} {rt : VK} {S : Sh} {ω : Ws} (h : Rt B0 F rt S ω) (e : Ex B0 B1) : Rt B1 F rt S ω := fun v B H e1 O p => h v B H (e.trans e1) O p
section
variable {c : Cc} {X : Cx} {B0 F : Hp} {D : Ends} {Γ Γ1 Γ2 : En} {ω ω1 ω2 ω3 ωo : Ws} {S T : Sh} {R : Bool → Prop} {e o i t : Expr} {a b rest sts : List Stmt} {x : Str} {pos p p2 px : Pos} {α : Type} {Rs : α → Sh} {xs : List α} {y : α} {P : α → Prop} {l : Addr}
theorem ds_nil (h : ∀ σ B H, Ex B0 B → EnvOk Γ σ B → Own F ω B H → D.nx σ H) : DS c X B0 F D Γ ω [] := fun fx σ B H hB hE hO => tS.of pss_nil (h σ B H hB hE hO)
/-- a branch's end: on with what stands behind it -/
theorem ds_next (h : DS c X B0 F D Γ ω rest) : DS c X B0 F { D with nx := tS X rest D } Γ ω [] := fun fx σ B H hB hE hO => tS.of pss_nil (h fx σ B H hB hE hO)
theorem ds_fg (f : Fg Γ Γ1) (h : DS c X B0 F D Γ1 ω sts) : DS c X B0 F D Γ ω sts := fun fx σ B H hB hE hO => h (fx.re f.names) σ B H hB (f.env hE) hO
theorem ds_asg (he : DE c Γ ω e S ω1) (hp : Put Γ x (some S) Γ1) (k : DS c X B0 F D Γ1 ω1 rest) (hl : Lo c x := by first | exact Or.inl rfl | exact Or.inr ⟨rfl, rfl⟩)
    (hs : ∀ env, swapsWithSole [.Name x px] e pos.line env = pure false := by intro _; rfl) (hw : ∀ env, swappedStores [.Name x px] e env = pure none := by intro _; rfl) : DS c X B0 F D Γ ω (.Assign [.Name x px] e pos :: rest) := by
  intro fx σ B H hB hE hO
  obtain ⟨j, h1, h2⟩ := hp.set
  refine tS.cons (ps_asg pe_w (pg_name (i := j) (by rw [fx.ns]; exact fx.nd) (by rw [fx.ns]; exact h1) (fx.lo hl).1 (fx.lo hl).2) (hs _) (hw _) (by rfl)) ?_
  refine he X fx F σ B H hE hO _ fun v B1 H1 e1 O1 p1 => ?_
  exact k (fx.re hp.names) _ B1 H1 (hB.trans e1) (h2 _ _ _ (hE.mono e1) p1) O1
theorem ds_asgE {Γ0 : En} (he : DE c Γ ω e (Es P Rs) ω1) (hn : Put Γ x none Γ0) (k : ∀ y, P y → ∃ Γ1, Put Γ x (some (Rs y)) Γ1 ∧ DS c X B0 F D Γ1 ω1 rest) (hl : Lo c x := by first | exact Or.inl rfl | exact Or.inr ⟨rfl, rfl⟩)
    (hs : ∀ env, swapsWithSole [.Name x px] e pos.line env = pure false := by intro _; rfl) (hw : ∀ env, swappedStores [.Name x px] e env = pure none := by intro _; rfl) : DS c X B0 F D Γ ω (.Assign [.Name x px] e pos :: rest) := by
  intro fx σ B H hB hE hO
  obtain ⟨j, hj⟩ := hn.ix
  refine tS.cons (ps_asg pe_w (pg_name (i := j) (by rw [fx.ns]; exact fx.nd) (by rw [fx.ns]; exact hj) (fx.lo hl).1 (fx.lo hl).2) (hs _) (hw _) (by rfl)) ?_
  refine he X fx F σ B H hE hO _ fun v B1 H1 e1 O1 p1 => ?_
  obtain ⟨z, hz, p1⟩ := p1
  obtain ⟨Γ1, hp, k⟩ := k z hz
  obtain ⟨j', h1, h2⟩ := hp.set
  have e : j' = j := nodup_ix fx.nd h1 hj
  subst e
  exact k (fx.re hp.names) _ B1 H1 (hB.trans e1) (h2 _ _ _ (hE.mono e1) p1) O1
/-- a new list, owned -/
theorem ds_own {Γ0 : En} (he : DN c Γ ω e Rs xs ω1) (hn : Put Γ x none Γ0) (k : ∀ l, ∃ Γ1, Put Γ x (some (At l)) Γ1 ∧ DS c X B0 F D Γ1 (ω1 ++ [(l, Cl Rs xs)]) rest) (hl : Lo c x := by first | exact Or.inl rfl | exact Or.inr ⟨rfl, rfl⟩)
    (hs : ∀ env, swapsWithSole [.Name x px] e pos.line env = pure false := by intro _; rfl) (hw : ∀ env, swappedStores [.Name x px] e env = pure none := by intro _; rfl) : DS c X B0 F D Γ ω (.Assign [.Name x px] e pos :: rest) := by
  intro fx σ B H hB hE hO
  obtain ⟨j, hj⟩ := hn.ix
  refine tS.cons (ps_asg pe_w (pg_name (i := j) (by rw [fx.ns]; exact fx.nd) (by rw [fx.ns]; exact hj) (fx.lo hl).1 (fx.lo hl).2) (hs _) (hw _) (by rfl)) ?_
  refine he X fx F σ B H hE hO _ fun l B1 H1 e1 O1 => ?_
  obtain ⟨Γ1, hp, k⟩ := k l
  obtain ⟨j', h1, h2⟩ := hp.set
  have e : j' = j := nodup_ix fx.nd h1 hj
  subst e
  exact k (fx.re hp.names) _ B1 H1 (hB.trans e1) (h2 _ _ _ (hE.mono e1) rfl) O1
theorem ds_freeze (hu : Upg Γ x (At l) (L Rs xs) Γ1) (ht : Tak ω l (Cl Rs xs) ω1) (k : DS c X B0 F D Γ1 ω1 sts) : DS c X B0 F D Γ ω sts := by
  intro fx σ B H hB hE hO
  obtain ⟨o, h1, ⟨vs, rfl, h3⟩, O2, e2⟩ := hO.freeze ht
  refine k (fx.re hu.names) σ _ H (hB.trans e2) (hu.env (fun v hv => ?_) (hE.mono e2)) O2
  exact ⟨l, vs, hv, upd_same, h3.mp fun _ s q => (Rs s).mono e2 q⟩
theorem ds_wide (hu : Upg Γ x S T Γ1) (hw : Sle S T) (k : DS c X B0 F D Γ1 ω sts) : DS c X B0 F D Γ ω sts := fun fx σ B H hB hE hO => k (fx.re hu.names) σ B H hB (hu.env (fun v hv => hw B v hv) hE) hO
theorem ds_if (ht : DT c Γ ω t R ω1) (ha : R true → DS c X B0 F { D with nx := tS X rest D } Γ ω1 a) (hb : R false → DS c X B0 F { D with nx := tS X rest D } Γ ω1 b) : DS c X B0 F D Γ ω (.If t a b pos :: rest) := by
  intro fx σ B H hB hE hO
  refine tS.cons (ps_if pt_w pss_w pss_w) ?_
  refine ht X fx F σ B H hE hO _ fun v B1 H1 e1 O1 p1 => ?_
  cases v with
  | true =>
    rw [if_pos rfl]
    exact ha p1 fx σ B1 H1 (hB.trans e1) (hE.mono e1) O1
  | false =>
    rw [if_neg Bool.false_ne_true]
    exact hb p1 fx σ B1 H1 (hB.trans e1) (hE.mono e1) O1
theorem ds_ret (hR : Rt B0 F D.rt T ωo) (he : DE c Γ ω e S (ωo ++ ω1)) (w : Sle S T) : DS c X B0 F D Γ ω (.Return (some e) pos :: rest) := by
  intro fx σ B H hB hE hO
  refine tS.cons (ps_ret pe_w) ?_
  refine he X fx F σ B H hE hO _ fun v B1 H1 e1 O1 p1 => ?_
  obtain ⟨B2, e2, O2⟩ := Own.drop (ω := ωo) (ω2 := ω1) O1
  exact hR v B2 H1 ((hB.trans e1).trans e2) O2 (T.mono e2 (w _ _ p1))
theorem ds_expr (he : DE c Γ ω e S ω1) (k : DS c X B0 F D Γ ω1 rest) (hs : ∀ env, swapsWith e none pos.line env = pure false := by intro _; rfl) : DS c X B0 F D Γ ω (.Expr e pos :: rest) := by
  intro fx σ B H hB hE hO
  refine tS.cons (ps_expr pe_w (hs _)) ?_
  exact he X fx F σ B H hE hO _ fun v B1 H1 e1 O1 p1 => k fx σ B1 H1 (hB.trans e1) (hE.mono e1) O1
theorem ds_pass (k : DS c X B0 F D Γ ω rest) : DS c X B0 F D Γ ω (.Pass pos :: rest) := fun fx σ B H hB hE hO => tS.cons ps_pass (k fx σ B H hB hE hO)
theorem ds_doc {j p'} {z : Str} (k : DS c X B0 F D Γ ω rest) : DS c X B0 F D Γ ω (.Expr (.Constant (.str z) j p') pos :: rest) := fun fx σ B H hB hE hO => tS.cons ps_doc (k fx σ B H hB hE hO)
theorem ds_brk (h : ∀ σ B H, Ex B0 B → EnvOk Γ σ B → Own F ω B H → D.bk σ H) : DS c X B0 F D Γ ω (.Break pos :: rest) := fun fx σ B H hB hE hO => tS.cons ps_break (h σ B H hB hE hO)
theorem ds_cont (h : ∀ σ B H, Ex B0 B → EnvOk Γ σ B → Own F ω B H → D.ct σ H) : DS c X B0 F D Γ ω (.Continue pos :: rest) := fun fx σ B H hB hE hO => tS.cons ps_continue (h σ B H hB hE hO)
/-- xs.append(e) -/
theorem ds_app {apos cpos : Pos} (ho : DE c Γ ω o (At l) ω) (he : DE c Γ ω e (Rs y) ω1) (hm : Hold ω l (Cl Rs xs)) (hs : Swp ω1 l (Cl Rs xs) (Cl Rs (xs ++ [y])) ω2) (hl : xs.length < sizeLine) (k : DS c X B0 F D Γ ω2 rest)
    (hbase : ∀ env, attributeBase o "append" env (eval o env) = eval o env := by intro _; rfl)
    (hfew : ∀ env, ((backTo cpos (starEach [e] env)).all (fun x => !x.1) && (backToKw cpos (keywordEach [] env)).all (fun x => x.1.isSome) && decide ([e].length + ([] : List Keyword).length + (if ([] : List Keyword).isEmpty then 0 else 1) < 30)) = true := by intro _; rfl)
    (hline : (apos.endLine == cpos.line) = true := by rfl) (hst : ∀ env, starEach [e] env = (false, eval e env) :: starEach [] env := by intro _; rfl) (hsw : ∀ env, swapsWith (.Call (.Attribute o "append" apos) [e] [] cpos) none pos.line env = pure false := by intro _; rfl) :
    DS c X B0 F D Γ ω (.Expr (.Call (.Attribute o "append" apos) [e] [] cpos) pos :: rest) := by
  intro fx σ B H hB hE hO
  refine tS.cons (ps_expr (pe_bm PySem.F.plainAttrs_list PySem.F.slot_list_append PySem.F.type_list_append mt_append pe_w (pa_cons pe_w pa_nil (hst _)) (hbase _) (hfew _) hline (hst _) rfl) (hsw _)) ?_
  refine ho X fx F σ B H hE hO _ fun v B1 H1 e1 O1 p1 => ?_
  have p1 : v = .ref l := p1
  subst p1
  refine ⟨?_, ?_⟩
  · obtain ⟨_, _, o', h2, us, rfl, h3⟩ := O1.ow _ _ hm.mem
    exact .inl ⟨rfl, us, SqL.of h2⟩
  · refine he X fx F σ B1 H1 (hE.mono e1) O1 _ fun u B2 H2 e2 O2 p2 => ?_
    obtain ⟨_, _, o', h2, us, rfl, h3⟩ := O2.ow _ _ hs.mem
    refine ⟨l, us, u, rfl, rfl, h2, by rw [h3.len]; exact hl, ?_⟩
    exact k fx σ B2 _ ((hB.trans e1).trans e2) (hE.mono (e1.trans e2)) (O2.swp hs ⟨_, rfl, h3.append (.cons p2 .nil)⟩)
theorem ds_appE {apos cpos : Pos} (ho : DE c Γ ω o (At l) ω) (he : DE c Γ ω e (Es P Rs) ω1) (hm : Hold ω l (Cl Rs xs)) (hm1 : Hold ω1 l (Cl Rs xs)) (hl : xs.length < sizeLine) (k : ∀ y, P y → ∃ ω2, Swp ω1 l (Cl Rs xs) (Cl Rs (xs ++ [y])) ω2 ∧ DS c X B0 F D Γ ω2 rest)
    (hbase : ∀ env, attributeBase o "append" env (eval o env) = eval o env := by intro _; rfl)
    (hfew : ∀ env, ((backTo cpos (starEach [e] env)).all (fun x => !x.1) && (backToKw cpos (keywordEach [] env)).all (fun x => x.1.isSome) && decide ([e].length + ([] : List Keyword).length + (if ([] : List Keyword).isEmpty then 0 else 1) < 30)) = true := by intro _; rfl)
    (hline : (apos.endLine == cpos.line) = true := by rfl) (hst : ∀ env, starEach [e] env = (false, eval e env) :: starEach [] env := by intro _; rfl) (hsw : ∀ env, swapsWith (.Call (.Attribute o "append" apos) [e] [] cpos) none pos.line env = pure false := by intro _; rfl) :
    DS c X B0 F D Γ ω (.Expr (.Call (.Attribute o "append" apos) [e] [] cpos) pos :: rest) := by
  intro fx σ B H hB hE hO
  refine tS.cons (ps_expr (pe_bm PySem.F.plainAttrs_list PySem.F.slot_list_append PySem.F.type_list_append mt_append pe_w (pa_cons pe_w pa_nil (hst _)) (hbase _) (hfew _) hline (hst _) rfl) (hsw _)) ?_
  refine ho X fx F σ B H hE hO _ fun v B1 H1 e1 O1 p1 => ?_
  have p1 : v = .ref l := p1
  subst p1
  refine ⟨?_, ?_⟩
  · obtain ⟨_, _, o', h2, us, rfl, h3⟩ := O1.ow _ _ hm.mem
    exact .inl ⟨rfl, us, SqL.of h2⟩
  · refine he X fx F σ B1 H1 (hE.mono e1) O1 _ fun u B2 H2 e2 O2 p2 => ?_
    obtain ⟨z, hz, p2⟩ := p2
    obtain ⟨ω2, hs, k⟩ := k z hz
    obtain ⟨_, _, o', h2, us, rfl, h3⟩ := O2.ow _ _ hs.mem
    refine ⟨l, us, u, rfl, rfl, h2, by rw [h3.len]; exact hl, ?_⟩
    exact k fx σ B2 _ ((hB.trans e1).trans e2) (hE.mono (e1.trans e2)) (O2.swp hs ⟨_, rfl, h3.append (.cons p2 .nil)⟩)
/-- xs[i] = e of an owned list -/
theorem ds_seti {kk : Int} {j : Nat} (he : DE c Γ ω e (Rs y) ω1) (ho : DE c Γ ω1 o (At l) ω2) (hi : DE c Γ ω2 i (I kk) ω3) (hj : ixN xs.length kk = some j) (hs : Swp ω3 l (Cl Rs xs) (Cl Rs (xs.set j y)) ωo) (k : DS c X B0 F D Γ ωo rest)
    (hss : ∀ env, swapsWithSole [.Subscript o i p] e pos.line env = pure false := by intro _; rfl) (hw : ∀ env, swappedStores [.Subscript o i p] e env = pure none := by intro _; rfl)
    (ha : ∀ env v, assign (.Subscript o i p) env v = (do
      let ov ← holding [v] (eval o env)
      let iv ← holding [v, ov] (eval i env)
      standAt p
      holding [v, ov, iv] (setItem ov iv v)
      release [v, ov, iv] []) := by intro _ _; rfl) : DS c X B0 F D Γ ω (.Assign [.Subscript o i p] e pos :: rest) := by
  intro fx σ B H hB hE hO
  refine tS.cons (ps_asg pe_w (pg_sub pe_w pe_w set_list (ha _)) (hss _) (hw _) (by rfl)) ?_
  refine he X fx F σ B H hE hO _ fun v B1 H1 e1 O1 p1 => ?_
  refine ho X fx F σ B1 H1 (hE.mono e1) O1 _ fun v2 B2 H2 e2 O2 p2 => ?_
  refine hi X fx F σ B2 H2 (hE.mono (e1.trans e2)) O2 _ fun v3 B3 H3 e3 O3 p3 => ?_
  obtain ⟨_, _, o', h2, us, rfl, h3⟩ := O3.ow _ _ hs.mem
  refine ⟨l, us, kk, j, p2, p3, h2, by rw [h3.len]; exact hj, ?_⟩
  exact k fx σ B3 _ (((hB.trans e1).trans e2).trans e3) (hE.mono ((e1.trans e2).trans e3)) (O3.swp hs ⟨_, rfl, All2.set (R := fun v x => (Rs x).p B3 v) ((Rs y).mono (e2.trans e3) p1) j h3⟩)
/-- a, b = e1, e2 -/
theorem ds_par {e1 e2 : Expr} {z : Str} {S1 S2 : Sh} {p1 p2' pt : Pos} {kt k2 pt2} (ha : DA c Γ ω [e1, e2] [S1, S2] ω1) (hp : Put Γ x (some S1) Γ1) (hq : Put Γ1 z (some S2) Γ2) (k : DS c X B0 F D Γ2 ω1 rest) (hne : x ≠ z := by decide)
    (hx : c.sc.names.lookup x = some .local := by exact rfl) (hz : c.sc.names.lookup z = some .local := by exact rfl)
    (hw : ∀ env : Env, env.scope = c.sc → swappedStores [.Tuple [.Name x p1, .Name z p2'] kt pt] (.Tuple [e1, e2] k2 pt2) env = pure (some [x, z]) := by (intro env h; cases env; cases h; rfl))
    (hs : ∀ env, swapsWithSole [.Tuple [.Name x p1, .Name z p2'] kt pt] (.Tuple [e1, e2] k2 pt2) pos.line env = pure false := by intro _; rfl) :
    DS c X B0 F D Γ ω (.Assign [.Tuple [.Name x p1, .Name z p2'] kt pt] (.Tuple [e1, e2] k2 pt2) pos :: rest) := by
  intro fx σ B H hB hE hO
  obtain ⟨j, h1, h2⟩ := hp.set
  obtain ⟨j2, h3, h4⟩ := hq.set
  rw [hp.names] at h3
  have hij : j ≠ j2 := by
    rintro rfl
    rw [h1] at h3
    exact hne (Option.some.inj h3)
  refine tS.cons (ps_par (i := j) (j := j2) fx.calm (by rw [fx.ns]; exact fx.nd) (by rw [fx.ns]; exact h1) (by rw [fx.ns]; exact h3) hij (by rw [fx.sc]; exact hx) (by rw [fx.sc]; exact hz) pa_w (hw _ fx.sc) (hs _)) ?_
  refine ha X fx F σ B H hE hO _ fun vs B1 H1 e1 O1 q1 => ?_
  obtain ⟨v, u, rfl, q1, q2⟩ := all2 q1
  exact ⟨v, u, rfl, k (fx.re (hq.names.trans hp.names)) _ B1 H1 (hB.trans e1) (h4 _ _ _ (h2 _ _ _ (hE.mono e1) q1) q2) O1⟩
end

/-! ### what is walked -/
def ItS {β : Type} (J : It) (n : Nat) (W : Nat → β → Prop) (Rb : β → Sh) (B1 : Hp) : Prop := ∀ B2 H2, Ex B1 B2 → Ex B2 H2 → (∀ i, i < n → J.go i H2) ∧ J.stop n H2 ∧
  ∀ i, i < n → ∀ x H3, J.yld i H2 x H3 → ∃ y, W i y ∧ ((H3 = H2 ∧ (Rb y).p B2 x) ∨ ∃ T o, H2 T = none ∧ H3 = upd H2 T o ∧ (B2 T = none → (Rb y).p (upd B2 T o) x))
def tI (X : Cx) (tg it : Expr) : TI := fun σ H R => ∀ pins s, Inv X pins σ H s → wpAny (model X.prog X.w) X.A (eval it X.env) (fun v s1 => wpAny (model X.prog X.w) X.A (pyIter v) (PIE X pins σ tg R) X.xe s1) X.xe s
theorem pi_w {X : Cx} {tg it : Expr} : PI X tg it (tI X tg it) := ⟨fun pins s _ _ _ I h => h pins s I⟩
theorem tI.of {X : Cx} {tg it : Expr} {wi : TI} {σ : L2.St} {H : Hp} {R : It → Hp → Prop} (h : PI X tg it wi) (q : wi σ H R) : tI X tg it σ H R := fun pins s I => h.run pins s σ H R I q
def DI {β : Type} (c : Cc) (Γ : En) (ω : Ws) (tg it : Expr) (n : Nat) (W : Nat → β → Prop) (Rb : β → Sh) (ω' : Ws) : Prop :=
  ∀ X, Fits c (Γ.map (·.1)) X → ∀ F σ B H, EnvOk Γ σ B → Own F ω B H → ∀ R : It → Hp → Prop, (∀ J B' H', Ex B B' → Own F ω' B' H' → ItS J n W Rb B' → R J H') → tI X tg it σ H R
section
variable {c : Cc} {Γ : En} {ω ω1 ω2 : Ws} {tg it a b d : Expr} {α β : Type} {Rs : α → Sh} {xs : List α} {bb : Bool} {pos p : Pos} {i j k : Int}
theorem i_seq (h : DE c Γ ω it (Sq bb Rs xs) ω1) : DI c Γ ω tg it xs.length (fun i y => xs[i]? = some y) Rs ω1 := by
  intro X fx F σ B H hE hO R hR
  cases bb with
  | true =>
    refine tI.of (pi_list pe_w) ?_
    refine h X fx F σ B H hE hO _ fun v B1 H1 e1 O1 p1 => ?_
    obtain ⟨a1, vs, rfl, g0, g2⟩ := p1
    refine ⟨a1, rfl, ⟨vs, SqL.of (O1.ex _ _ g0)⟩, hR _ B1 H1 e1 O1 fun B2 H2 e2 e3 => ?_⟩
    have w := walk_list (K := X.K) (a := a1) (xs := vs)
    have G : SqL X.K H2 a1 vs := SqL.of (e3 _ _ (e2 _ _ g0))
    rw [← g2.len]
    refine ⟨fun i hi => w.goes i H2 hi G, w.stops H2 G, fun i hi x H3 y => ?_⟩
    obtain ⟨rfl, q⟩ := w.yields i H2 x H3 hi G y
    obtain ⟨z, q1, q2⟩ := g2.get' q
    exact ⟨z, q1, .inl ⟨rfl, (Rs z).mono e2 q2⟩⟩
  | false =>
    refine tI.of (pi_tup pe_w) ?_
    refine h X fx F σ B H hE hO _ fun v B1 H1 e1 O1 p1 => ?_
    obtain ⟨a1, vs, rfl, g0, g2⟩ := p1
    refine ⟨a1, rfl, ⟨vs, SqT.of (O1.ex _ _ g0)⟩, hR _ B1 H1 e1 O1 fun B2 H2 e2 e3 => ?_⟩
    have w := walk_tup (K := X.K) (a := a1) (xs := vs)
    have G : SqT X.K H2 a1 vs := SqT.of (e3 _ _ (e2 _ _ g0))
    rw [← g2.len]
    refine ⟨fun i hi => w.goes i H2 hi G, w.stops H2 G, fun i hi x H3 y => ?_⟩
    obtain ⟨rfl, q⟩ := w.yields i H2 x H3 hi G y
    obtain ⟨z, q1, q2⟩ := g2.get' q
    exact ⟨z, q1, .inl ⟨rfl, (Rs z).mono e2 q2⟩⟩
theorem i_rng1 (ha : DE c Γ ω a (I j) ω1) (hm : c.M.mg "range" = none) (hj : j < 2 ^ 62 := by omega) (hj' : -(2 ^ 62) ≤ j := by omega) (hg : Glo c.sc "range" := by exact rfl) (he : ∀ env, starEach [a] env = [(false, eval a env)] := by intro _; rfl) :
    DI c Γ ω tg (.Call (.Name "range" p) [a] [] pos) j.toNat (fun i y => y = (i : Int)) I ω1 := by
  intro X fx F σ B H hE hO R hR
  refine tI.of (pi_range1 (gl_of fx hg) (by rw [fx.mg]; exact hm) pa_w (he _)) ?_
  refine a_cons ha a_nil (by intro env; rw [he]; rfl) X fx F σ B H hE hO _ fun vs B1 H1 e1 O1 p1 => ?_
  obtain ⟨v, rfl, hv⟩ := all1 p1
  refine ⟨j, by rw [show v = V.int j from hv], hj', hj, hR _ B1 H1 e1 O1 fun B2 H2 e2 e3 => ?_⟩
  refine ⟨fun i hi => hi, Nat.le_refl _, fun i hi x H3 y => ?_⟩
  obtain ⟨rfl, q⟩ := y
  exact ⟨(i : Int), rfl, .inl ⟨rfl, by rw [q, Int.zero_add]; rfl⟩⟩
theorem i_rng2 (ha : DE c Γ ω a (I i) ω1) (hb : DE c Γ ω1 b (I j) ω2) (hm : c.M.mg "range" = none) (hB : -(2 ^ 62) ≤ i ∧ i < 2 ^ 62 ∧ -(2 ^ 62) ≤ j ∧ j < 2 ^ 62 := by omega) (hg : Glo c.sc "range" := by exact rfl) (he : ∀ env, starEach [a, b] env = [(false, eval a env), (false, eval b env)] := by intro _; rfl)
    (he2 : ∀ env, starEach [b] env = [(false, eval b env)] := by intro _; rfl) : DI c Γ ω tg (.Call (.Name "range" p) [a, b] [] pos) (j - i).toNat (fun k y => y = i + (k : Int)) I ω2 := by
  intro X fx F σ B H hE hO R hR
  refine tI.of (pi_range2 (gl_of fx hg) (by rw [fx.mg]; exact hm) pa_w (he _) (he2 _)) ?_
  refine a_cons ha (a_cons hb a_nil (by intro env; rw [he2]; rfl)) (by intro env; rw [he, he2]) X fx F σ B H hE hO _ fun vs B1 H1 e1 O1 p1 => ?_
  obtain ⟨v, u, rfl, hv, hu⟩ := all2 p1
  refine ⟨i, j, by rw [show v = V.int i from hv, show u = V.int j from hu], hB, hR _ B1 H1 e1 O1 fun B2 H2 e2 e3 => ?_⟩
  refine ⟨fun i hi => hi, Nat.le_refl _, fun i hi x H3 y => ?_⟩
  obtain ⟨rfl, q⟩ := y
  exact ⟨_, rfl, .inl ⟨rfl, q⟩⟩
theorem all3 {B : Hp} {vs : List V} {s t r : Sh} (h : All2 (fun v (s : Sh) => s.p B v) vs [s, t, r]) : ∃ v u z, vs = [v, u, z] ∧ s.p B v ∧ t.p B u ∧ r.p B z := by
  cases h with
  | cons h t =>
    obtain ⟨u, z, rfl, q1, q2⟩ := all2 t
    exact ⟨_, u, z, rfl, h, q1, q2⟩
/-- range(i, j, -1) -/
theorem i_rngD (ha : DE c Γ ω a (I i) ω1) (hb : DE c Γ ω1 b (I j) ω2) (hd : DE c Γ ω2 d (I (-1)) ω2) (hm : c.M.mg "range" = none) (hB : -(2 ^ 62) ≤ i ∧ i < 2 ^ 62 ∧ -(2 ^ 62) ≤ j ∧ j < 2 ^ 62 := by omega) (hg : Glo c.sc "range" := by exact rfl)
    (he : ∀ env, starEach [a, b, d] env = (false, eval a env) :: starEach [b, d] env := by intro _; rfl) (he2 : ∀ env, starEach [b, d] env = (false, eval b env) :: starEach [d] env := by intro _; rfl) (he3 : ∀ env, starEach [d] env = (false, eval d env) :: starEach [] env := by intro _; rfl)
    (hpl : ∀ env, (backTo pos (starEach [b, d] env)).any (·.1) = false := by intro _; rfl) : DI c Γ ω tg (.Call (.Name "range" p) [a, b, d] [] pos) (i - j).toNat (fun k y => y = i - (k : Int)) I ω2 := by
  intro X fx F σ B H hE hO R hR
  refine tI.of (pi_range3 (gl_of fx hg) (by rw [fx.mg]; exact hm) pa_w (he _) (hpl _)) ?_
  refine a_cons ha (a_cons hb (a_cons hd a_nil he3) he2) he X fx F σ B H hE hO _ fun vs B1 H1 e1 O1 p1 => ?_
  obtain ⟨v, u, z, rfl, hv, hu, hz⟩ := all3 p1
  refine ⟨i, j, -1, (i - j).toNat, by rw [show v = V.int i from hv, show u = V.int j from hu, show z = V.int (-1) from hz], RgC.neg hB.1 hB.2.1 hB.2.2.1 hB.2.2.2, hR _ B1 H1 e1 O1 fun B2 H2 e2 e3 => ?_⟩
  refine ⟨fun i hi => hi, Nat.le_refl _, fun k hi x H3 y => ?_⟩
  obtain ⟨rfl, q⟩ := y
  exact ⟨_, rfl, .inl ⟨rfl, by rw [q]; show V.int _ = V.int _; congr 1; omega⟩⟩
end

/-! ### targets -/
def tG (X : Cx) (tg : Expr) : TG := fun v σ H Q => ∀ pins s u, Inv X pins σ H s → RelV v u → wpAny (model X.prog X.w) X.A (assign tg X.env u) (fun _ s' => ∃ σ' H', Inv X pins σ' H' s' ∧ Q σ' H') X.xe s
theorem pg_w {X : Cx} {tg : Expr} : PG X tg (tG X tg) := ⟨fun pins s _ _ _ u _ I r h => h pins s u I r⟩
theorem tG.of {X : Cx} {tg : Expr} {g : TG} {v : V} {σ : L2.St} {H : Hp} {Q : L2.St → Hp → Prop} (h : PG X tg g) (q : g v σ H Q) : tG X tg v σ H Q := fun pins s u I r => h.run pins s σ H v u Q I r q
/-- only the slots of these names may have changed -/
def Only (N ns : List Str) (σ σ' : L2.St) : Prop := σ'.length = σ.length ∧ ∀ (i : Nat) x, N[i]? = some x → x ∉ ns → σ'[i]? = σ[i]?
def DG (c : Cc) (tg : Expr) (ns : List Str) (S : Sh) (Γ Γ' : En) : Prop := Γ'.map (·.1) = Γ.map (·.1) ∧ ∀ X, Fits c (Γ.map (·.1)) X → ∀ σ B H v, EnvOk Γ σ B → Ex B H → S.p B v → ∀ Q : L2.St → Hp → Prop, (∀ σ', EnvOk Γ' σ' B → Only (Γ.map (·.1)) ns σ σ' → Q σ' H) → tG X tg v σ H Q
section
variable {c : Cc} {Γ Γ1 Γ2 : En} {x z : Str} {S S1 S2 : Sh} {p p1 pos : Pos}
theorem g_name (hp : Put Γ x (some S) Γ1) (hl : Lo c x := by first | exact Or.inl rfl | exact Or.inr ⟨rfl, rfl⟩) : DG c (.Name x p) [x] S Γ Γ1 := by
  refine ⟨hp.names, fun X fx σ B H v hE hO hv Q hQ => ?_⟩
  obtain ⟨j, h1, h2⟩ := hp.set
  refine tG.of (pg_name (i := j) (by rw [fx.ns]; exact fx.nd) (by rw [fx.ns]; exact h1) (fx.lo hl).1 (fx.lo hl).2) (hQ _ (h2 σ B v hE hv) ⟨by simp, fun k y hk hy => ?_⟩)
  refine List.getElem?_set_ne fun e => hy ?_
  subst e
  rw [h1] at hk
  simp [Option.some.inj hk]
theorem g_two {e1 e2 : Expr} {k} {n1 n2 : List Str} (h1 : DG c e1 n1 S1 Γ Γ1) (h2 : DG c e2 n2 S2 Γ1 Γ2) (hs : ∀ env, (assignEach [e1, e2] env).map (·.2) = assign e1 env :: (assignEach [e2] env).map (·.2) := by intro _; rfl) (hs2 : ∀ env, (assignEach [e2] env).map (·.2) = assign e2 env :: (assignEach [] env).map (·.2) := by intro _; rfl)
    (hn : ∀ env, (assignEach [e1, e2] env).length = 2 := by intro _; rfl) (hst : ∀ env, (assignEach [e1, e2] env).findIdx? (·.1) = none := by intro _; rfl) : DG c (.Tuple [e1, e2] k pos) (n1 ++ n2) (U [S1, S2]) Γ Γ2 := by
  refine ⟨h2.1.trans h1.1, fun X fx σ B H v hE hO hv Q hQ => ?_⟩
  obtain ⟨a, vs, rfl, q1, q2⟩ := hv
  obtain ⟨v, u, rfl, r1, r2⟩ := all2 q2
  refine tG.of (pg_tup (n := 2) fx.calm (pgs_cons pg_w (pgs_cons pg_w pgs_nil (hs2 _)) (hs _)) (hn _) (hst _)) ?_
  refine ⟨a, [v, u], rfl, SqT.of (hO _ _ q1), rfl, v, [u], rfl, ?_⟩
  refine h1.2 X fx σ B H v hE hO r1 _ fun σ1 hE1 o1 => ⟨u, [], rfl, ?_⟩
  refine h2.2 X (fx.re h1.1) σ1 B H u hE1 hO r2 _ fun σ2 hE2 o2 => ⟨rfl, hQ σ2 hE2 ⟨o2.1.trans o1.1, fun i x hi hx => ?_⟩⟩
  rw [o2.2 i x (by rw [h1.1]; exact hi) (fun z => hx (List.mem_append_right _ z)), o1.2 i x hi (fun z => hx (List.mem_append_left _ z))]
end

/-! ### for -/
def Jn (N : List Str) (B0 F : Hp) (J : En → Ws → Prop) : L2.St → Hp → Prop := fun σ H => ∃ Γ ω B, J Γ ω ∧ Γ.map (·.1) = N ∧ Ex B0 B ∧ EnvOk Γ σ B ∧ Own F ω B H
section
variable {c : Cc} {X : Cx} {B0 F : Hp} {D : Ends} {Γ Γ0 Γ1 Γ2 : En} {ω ω1 ω2 : Ws} {tg it : Expr} {body rest sts : List Stmt} {pos : Pos} {β : Type} {W : Nat → β → Prop} {Rb : β → Sh} {n : Nat}
/-- the body's end -/
theorem ds_turn {J : En → Ws → Prop} {N : List Str} {nx : L2.St → Hp → Prop} (f : Fg Γ Γ1) (h : J Γ1 ω) (hN : N = Γ.map (·.1)) (hx : D.nx = Jn N B0 F J) : DS c X B0 F D Γ ω [] :=
  ds_nil fun σ B H hB hE hO => by rw [hx]; exact ⟨Γ1, ω, B, h, by rw [hN, f.names], hB, f.env hE, hO⟩
theorem ds_for (J : Nat → En → Ws → Prop) (hi : DI c Γ ω tg it n W Rb ω1) (f : Fg Γ Γ0) (h0 : J 0 Γ0 ω1)
    (hb : ∀ B1, Ex B0 B1 → ∀ i y Γi ωi, i < n → W i y → J i Γi ωi → Γi.map (·.1) = Γ.map (·.1) → ∃ Γb ns, DG c tg ns (Rb y) Γi Γb ∧ DS c X B1 F { D with nx := Jn (Γ.map (·.1)) B1 F (J (i + 1)), ct := Jn (Γ.map (·.1)) B1 F (J (i + 1)), bk := tS X rest D } Γb ωi body)
    (hd : ∀ Γi ωi, J n Γi ωi → Γi.map (·.1) = Γ.map (·.1) → DS c X B0 F D Γi ωi rest) (hs : ∀ env x, foldedSetIterable it env x = pure x := by intro _ _; rfl) : DS c X B0 F D Γ ω (.For tg it body [] pos :: rest) := by
  intro fx σ B H hB hE hO
  refine tS.cons (ps_for fx.pass fx.calm pi_w pg_w pss_w (hs _)) ?_
  refine hi X fx F σ B H hE hO _ fun It B1 H1 e1 O1 hit => ?_
  have hB1 : Ex B0 B1 := hB.trans e1
  refine ⟨fun i m σ' H' => m = n - i ∧ i ≤ n ∧ Jn (Γ.map (·.1)) B1 F (J i) σ' H', ⟨n, by simp, Nat.zero_le _, Γ0, ω1, B1, h0, f.names, Ex.refl B1, f.env (hE.mono e1), O1⟩, ?_⟩
  rintro i m σ2 H2 ⟨rfl, hi', Γi, ωi, B2, hJ, hN, hB2, hE2, hO2⟩
  obtain ⟨q1, q2, q3⟩ := hit B2 H2 hB2 hO2.ex
  by_cases hlt : i < n
  · refine .inr ⟨q1 i hlt, Jn (Γ.map (·.1)) B1 F (J (i + 1)), fun σ' H' p' => ⟨n - (i + 1), by omega, rfl, hlt, p'⟩, fun x H3 y => ?_⟩
    obtain ⟨z, hz, q⟩ := q3 i hlt x H3 y
    obtain ⟨Γb, ns, hg, hds⟩ := hb B1 hB1 i z Γi ωi hlt hz hJ hN
    rcases q with ⟨rfl, q⟩ | ⟨T, o, hT, rfl, q⟩
    · refine hg.2 X (fx.re hN) σ2 B2 _ x hE2 hO2.ex q _ fun σ3 hE3 _ => ?_
      exact hds (fx.re (hg.1.trans hN)) σ3 B2 _ hB2 hE3 hO2
    · obtain ⟨O4, e4⟩ := hO2.new (o := o) hT
      refine hg.2 X (fx.re hN) σ2 (upd B2 T o) _ x (hE2.mono e4) O4.ex (q (hO2.none_of hT).1) _ fun σ3 hE3 _ => ?_
      exact hds (fx.re (hg.1.trans hN)) σ3 _ _ (hB2.trans e4) hE3 O4
  · have e : i = n := by omega
    subst e
    exact .inl ⟨q2, hd Γi ωi hJ hN (fx.re hN) σ2 B2 H2 (hB1.trans hB2) hE2 hO2⟩
end

/-! ### a def by its body -/
def mkΓ : List Str → List Sh → En
  | [], _ => []
  | x :: N, [] => (x, none) :: mkΓ N []
  | x :: N, s :: ss => (x, some s) :: mkΓ N ss
theorem mk_names : ∀ (N : List Str) (ss : List Sh), (mkΓ N ss).map (·.1) = N
  | [], _ => rfl
  | x :: N, [] => by show x :: (mkΓ N []).map (·.1) = _; rw [mk_names N []]
  | x :: N, s :: ss => by show x :: (mkΓ N ss).map (·.1) = _; rw [mk_names N ss]
theorem mk_none {B : Hp} : ∀ (N : List Str), EnvOk (mkΓ N []) (List.replicate N.length none) B
  | [] => trivial
  | _ :: N => mk_none N
theorem mk_env {B : Hp} : ∀ (N : List Str) (ss : List Sh) (vs : List V), All2 (fun v (s : Sh) => s.p B v) vs ss → ss.length ≤ N.length → EnvOk (mkΓ N ss) (L2.start N vs) B
  | [], [], _, .nil, _ => trivial
  | [], _ :: _, _, _, h => by simp at h
  | x :: N, [], _, .nil, _ => mk_none (x :: N)
  | x :: N, s :: ss, _, .cons (a := v) (l := vs) h t, hl => by
    have ih := mk_env (B := B) N ss vs t (by simpa using hl)
    have e : L2.start (x :: N) (v :: vs) = some v :: L2.start N vs := by
      unfold L2.start
      simp
    rw [e]
    exact ⟨⟨v, rfl, h⟩, ih⟩
theorem gd_of {τ : Type} {t : Ct τ} {M : Mo} {k : Nat} {x qual : Str} {st : Stmt} {f : Addr} {fd : FuncData} {N ps : List Str} (F : Fun M.K x qual st f fd) (S : FnScope N ps (defScope st)) (hm : M.mg x = some (.ref f)) (hb : Binds M.K fd ps []) (hlen : ∀ g, (t.As g).length = ps.length := by intro _; rfl)
    (hbody : ∀ (X : Cx) (B0 F0 : Hp) (D : Ends) (g : τ), t.pre g → Rt B0 F0 D.rt (t.S g) (t.ω' g) → (∀ σ H, D.rt .non H → D.nx σ H) → DS ⟨M, defScope st, k, true⟩ X B0 F0 D (mkΓ N (t.As g)) (t.ω g) (defBody st)) : Gd M (k + 1) x ps t := by
  refine ⟨f, fd, F.ok S (fun vs H Q E h => ?_) (fun cdv A outer s H vs Q E hr h => ?_), hm, F.kp, hb⟩
  · obtain ⟨g, _, _, _, h2, _⟩ := h
    rw [h2.len, hlen]
  · obtain ⟨g, F0, B, hp, hv, hO, hQ⟩ := h
    have hl : ps.length ≤ N.length := by have := congrArg List.length S.pre; rw [List.length_take] at this; omega
    refine ⟨_, pss_w, hbody _ B F0 _ g hp (fun v B' H' e1 O1 p1 => hQ v B' H' e1 O1 p1) (fun _ _ h => h) ?_ _ B H (Ex.refl B) (mk_env N _ vs hv (by rw [hlen]; exact hl)) hO⟩
    rw [mk_names]
    exact ⟨rfl, rfl, rfl, rfl, rfl, rfl, rfl, S.nd, rfl, hr, fun _ _ _ => rfl, PassesOwn.never⟩
end ZZ

set_option maxHeartbeats 2000000
/-! Z5: enumerate and zip over lists and tuples in any mix. -/
namespace ZZ
open PySem PySem.Spec PyProof.Rows L2
open Evl (Ex)

/-! ### a list or a tuple that stands in H -/
def hoB (bb : Bool) (xs : List V) : HO := if bb then .lst xs else .tup xs
def ItB (bb : Bool) (h : Heap) (it a : Addr) (i : Nat) : Prop := match bb with
  | true => h.IsListIter it a i
  | false => h.IsTupleIter it a i
def ObB (bb : Bool) (h : Heap) (a : Addr) (items : Array Value) : Prop := match bb with
  | true => h.IsList a items
  | false => h.IsTuple a items
def itB (bb : Bool) (a : Addr) : Obj := match bb with
  | true => { cls := .type "list_iterator", data := .fields #[.ref a, .int 0 0] }
  | false => { cls := .type "tuple_iterator", data := .fields #[.ref a, .int 0 0] }
theorem draws_B {prog : Program} {w : World} {A : Around} (bb : Bool) (hh : A.handled = none) {it a : Addr} (hne : a ≠ it) (items : Array Value) : Draws prog w A it [it, a] items.size (fun i v => items[i]? = some v) (fun i h => ItB bb h it a i ∧ ObB bb h a items) := by
  cases bb with
  | true => exact Draws.list hh it a hne items
  | false => exact Draws.tuple hh it a hne items
theorem begins_B (bb : Bool) (a : Addr) (items : Array Value) : Begins (.ref a) (itB bb a) fun h => ObB bb h a items := by
  cases bb with
  | true => exact begins_list a items
  | false => exact begins_tuple a items
theorem ItB.of_get {bb : Bool} {h : Heap} {it a : Addr} (e : h.get? it = some (itB bb a)) : ItB bb h it a 0 := by
  cases bb with
  | true => exact ⟨_, e, rfl, rfl⟩
  | false => exact ⟨_, e, rfl, rfl⟩
theorem ItB.move {bb : Bool} {h h' : Heap} {it a : Addr} {i : Nat} (st : ItB bb h it a i) (k : ∀ o, h.get? it = some o → h'.get? it = some o) : ItB bb h' it a i := by
  cases bb with
  | true => exact Heap.IsListIter.at st k
  | false => exact Heap.IsTupleIter.at st k
theorem ItB.rec' {bb : Bool} {h : Heap} {it a : Addr} {i : Nat} (st : ItB bb h it a i) : ∃ o, h.get? it = some o ∧ o.cls ≠ .type "list" ∧ o.cls ≠ .type "tuple" ∧ ∀ v, o.data ≠ .cell v := by
  cases bb with
  | true =>
    obtain ⟨o, e, c, d⟩ := (show h.IsListIter it a i from st)
    exact ⟨o, e, (by rw [c]; decide +kernel), (by rw [c]; decide +kernel), fun v z => by rw [d] at z; cases z⟩
  | false =>
    obtain ⟨o, e, c, d⟩ := (show h.IsTupleIter it a i from st)
    exact ⟨o, e, (by rw [c]; decide +kernel), (by rw [c]; decide +kernel), fun v z => by rw [d] at z; cases z⟩
theorem ObB.rec' {bb : Bool} {h : Heap} {a : Addr} {items : Array Value} (p : ObB bb h a items) : ∃ o, h.get? a = some o ∧ (o.cls = .type "list" ∨ o.cls = .type "tuple") := by
  cases bb with
  | true =>
    obtain ⟨o, e, c, _⟩ := (show h.IsList a items from p)
    exact ⟨o, e, .inl c⟩
  | false =>
    obtain ⟨o, e, c, _⟩ := (show h.IsTuple a items from p)
    exact ⟨o, e, .inr c⟩
theorem ItB.apart {bb b2 : Bool} {h : Heap} {it a c : Addr} {i : Nat} {items : Array Value} (st : ItB bb h it a i) (p : ObB b2 h c items) : c ≠ it := by
  obtain ⟨o, e, n1, n2, _⟩ := st.rec'
  obtain ⟨u, e2, q⟩ := p.rec'
  rintro rfl
  rw [e] at e2; cases e2
  exact q.elim n1 n2
section
variable {X : Cx} {pins : List (Addr × Obj)} {σ : L2.St} {H : Hp} {s : Shared} {bb b2 : Bool} {a b : Addr} {xs ys : List V}
theorem src_ob (I : Inv X pins σ H s) (h : H a = some (hoB bb xs)) : ∃ its : List Value, Vals xs its ∧ ObB bb s.heap a its.toArray ∧ xs.length ≤ sizeLine := by
  cases bb with
  | true =>
    obtain ⟨its, r, p, z⟩ := I.list (SqL.of h)
    exact ⟨its, r, p.isList, z⟩
  | false =>
    obtain ⟨its, r, p, z⟩ := I.tuple (SqT.of h)
    exact ⟨its, r, p, z⟩
theorem hoB_inj (h : H a = some (hoB bb xs)) (h' : H a = some (hoB bb ys)) : xs = ys := by
  rw [h] at h'
  cases bb <;> (injection h' with e; injection e)
end

/-! ### enumerate -/
/-- one new pair a turn: the place, the item -/
def IteB (bb : Bool) (a : Addr) : It :=
  ⟨fun i H => ∃ (xs : List V) (x : V), H a = some (hoB bb xs) ∧ xs[i]? = some x, fun i H v H' => ∃ T x, v = .ref T ∧ H T = none ∧ H' = upd H T (.tup [.int (i : Nat), x]) ∧ ∀ xs, H a = some (hoB bb xs) → xs[i]? = some x,
    fun i H => ∃ xs : List V, H a = some (hoB bb xs) ∧ xs.length = i⟩
theorem turn_enumB {P : Program} {w : World} {K : PySem.W.Frag} {elts : List Expr} {kk : Nat} {tpos : Pos} (bb : Bool) (a e it : Addr) :
    Turn P w K (.Tuple elts kk tpos) (IteB bb a) [e, it] e (fun i h => (∃ old, IsEnum h e it ((i : Nat) : Int) old) ∧ ItB bb h it a i ∧ e ≠ it) where
  mem := List.mem_cons_self
  obj := fun i h st b hb => by
    obtain ⟨⟨old, he⟩, hit, _⟩ := st
    rcases (show b = e ∨ b = it by simpa using hb) with rfl | rfl
    · exact ⟨_, he, fun v q => nomatch q⟩
    · obtain ⟨o, h1, _, _, h2⟩ := hit.rec'
      exact ⟨o, h1, h2⟩
  keep := fun i h h' st k => ⟨st.1.imp fun old he => k e (by simp) _ he, st.2.1.move fun o q => k it (by simp) o q, st.2.2⟩
  item := by
    intro X hP hw hK hc i pins s σ H E I hf st hg
    subst hP hw hK
    obtain ⟨⟨old, he⟩, hit, hne⟩ := st
    obtain ⟨xs, x, hq, hx⟩ := hg
    obtain ⟨its, rv, ob, hz⟩ := src_ob I hq
    obtain ⟨u, hu, ru⟩ := rv.get hx
    have hel : e < s.heap.objs.size := Heap.lt_size he
    have hil : it < s.heap.objs.size := let ⟨_, q, _⟩ := hit.rec'; Heap.lt_size q
    have hai : a ≠ it := hit.apart ob
    have hea : e ≠ a := by
      obtain ⟨o, q1, q2⟩ := ob.rec'
      rintro rfl
      rw [he] at q1; cases q1
      rcases q2 with q | q
      · exact absurd (show Value.type "enumerate" = Value.type "list" from q) (by decide +kernel)
      · exact absurd (show Value.type "enumerate" = Value.type "tuple" from q) (by decide +kernel)
    have hi : i < its.toArray.size := by
      have := (List.getElem?_eq_some_iff.mp hu).1
      simpa using this
    have D := draws_B (prog := X.prog) (w := X.w) (A := X.A.in1) bb (I.ok.hd hc) hai its.toArray
    refine wpAny_pyNext_enum_itemD D he ⟨hit, ob⟩ hi hne (by simp [hne, hea]) fun x' h' tk hx' ho st' hT hsz hk => ?_
    have ex : x' = u := by
      have q : its.toArray[i]? = some x' := hx'
      rw [show its.toArray[i]? = some u by simpa using hu] at q
      exact (Option.some.inj q).symm
    subst ex
    refine ⟨_, rfl, wpAny_letOwnedTupleGo_enum (s := { s with heap := h', toks := tk + 1 }) ho fun h'' he' sb => ?_⟩
    have hT2 : h''.get? s.heap.objs.size = some { cls := .type "tuple", data := .seq #[.int i tk, x'] } := (sb.2 _ (Nat.ne_of_gt hel)).trans hT
    have new : ObjOk X.prog X.w (upd H s.heap.objs.size (.tup [.int (i : Nat), x])) h'' s.heap.objs.size (.tup [.int (i : Nat), x]) :=
      ⟨(show 2 ≤ sizeLine by decide), [.int i tk, x'], .cons ⟨_, rfl⟩ (.cons ru .nil), ⟨_, hT2, rfl, _, rfl⟩⟩
    have I1 : Inv X pins σ (upd H s.heap.objs.size (.tup [.int (i : Nat), x])) { s with heap := h'', toks := tk + 1 } :=
      I.turnedNew (ch := [e, it]) (fun b o hb q => (sb.2 b (fun z => hb (by rw [z]; simp))).trans (hk b o (fun z => hb (by rw [z]; simp)) (fun z => hb (by rw [z]; simp)) q)) hf (Nat.le_refl _) new
    refine ⟨.ref s.heap.objs.size, _, I1, rfl, ⟨_, x, rfl, I.hok.fresh (Nat.le_refl _), rfl, fun ys hy => by rw [hoB_inj hy hq]; exact hx⟩, ⟨⟨x', ?_⟩, st'.1.move fun o q => (sb.2 it (Ne.symm hne)).trans q, hne⟩, fun b hb => ?_⟩
    · rw [show ((i + 1 : Nat) : Int) = (i : Int) + 1 by omega]; exact he'
    · have hb' : b < s.heap.objs.size := by
        rcases (show b = e ∨ b = it by simpa using hb) with z | z <;> rw [z]
        · exact hel
        · exact hil
      rw [upd_ne (Nat.ne_of_lt hb')]
      exact (hf b hb).1
  done := by
    intro X hP hw hK hc i pins s σ H E I hf st hg
    subst hP hw hK
    obtain ⟨⟨old, he⟩, hit, hne⟩ := st
    obtain ⟨xs, hq, hx⟩ := hg
    obtain ⟨its, rv, ob, hz⟩ := src_ob I hq
    obtain ⟨f0, f1, f2, f3, f4, f5⟩ := hf it (by simp)
    have D := draws_B (prog := X.prog) (w := X.w) (A := X.A.in1) bb (I.ok.hd hc) (hit.apart ob) its.toArray
    have hn : its.toArray.size = i := by rw [List.size_toArray, ← rv.length]; exact hx
    exact wpAny_pyNext_enum_endD D he ⟨by rw [hn]; exact hit, ob⟩ fun h' eb => ⟨rfl, I.turned (t' := s.toks) (fun b o hb q => eb b o hb q) f0 f1 f3 f4 f5⟩
  self := fun A i s Q E st h => let ⟨⟨_, he⟩, _⟩ := st; wpAny_pyIter_enum he h

/-- enumerate(v) with the start left out -/
theorem meets_enum1 {v : Value} {o : Obj} {G : Heap → Prop} (B : Begins v o G) : Meets (Builtin.«enumerate.__new__» ⟨[.type "enumerate", v], []⟩) (fun _ R s => G s.heap ∧
      R (.ok (.ret (.ref (s.heap.push o).objs.size))) { s with heap := (s.heap.push o).push { cls := .type "enumerate", data := .fields #[.none, .bool false, .ref s.heap.objs.size, rawInt 0, .none, .none] } }) :=
  .of_wp fun prog w A R s h => by
    obtain ⟨hp, g, d, tk, os⟩ := s
    obtain ⟨h1, h⟩ := h
    have hsub := sub_enumerate
    have go : ∀ {A' : Around} {E : Value → Shared → Prop} {Q : Value → Shared → Prop}, Q (.ref hp.objs.size) ⟨hp.push o, g, d, tk, os⟩ → wpAny (model prog w) A' (pyIter v) Q E ⟨hp, g, d, tk, os⟩ := fun q => B.iter _ _ _ _ _ _ h1 q
    wp_walk using go
    refine wpAny_stack_any fun st => wpAny_pure ?_
    split
    · rename_i c _ _ _ _ _
      cases (c == Value.type "enumerate") <;> (wp_walk using go; exact ⟨_, rfl, h⟩)
    · (wp_walk using go; exact ⟨_, rfl, h⟩)
theorem call_enum1 {prog : Program} {w : World} {A : Around} {E : Value → Shared → Prop} {s : Shared} {v : Value} {o : Obj} {G : Heap → Prop} {Q : Value → Shared → Prop} (B : Begins v o G) (h1 : G s.heap)
    (h : ∀ h', IsEnum h' (s.heap.objs.size + 1) s.heap.objs.size 0 .none → h'.get? s.heap.objs.size = some o → (∀ b o, s.heap.get? b = some o → h'.get? b = some o) → Q (.ref (s.heap.objs.size + 1)) { s with heap := h' }) :
    wpAny (model prog w) A (call (.type "enumerate") [v]) Q E s := by
  refine callType_new F.called_enumerate (by decide) (F.typeCall_enumerate_1 _) (F.newCall_enumerate_1 _) (fun obj => F.args_object_init_2 obj _) F.entry_enumerate_new (meets_enum1 B) ⟨h1, ?_⟩
  have hz : (s.heap.push o).objs.size = s.heap.objs.size + 1 := Heap.size_push ..
  have he := Heap.get?_push_size (s.heap.push o) (o := { cls := .type "enumerate", data := .fields #[.none, .bool false, .ref s.heap.objs.size, rawInt 0, .none, .none] }) rfl
  show _ ∧ _
  rw [hz] at he ⊢
  exact ⟨⟨_, he, rfl⟩, h _ he (Heap.get?_push_of_some _ (Heap.get?_push_size _ B.free)) fun b o x => Heap.get?_push_of_some _ (Heap.get?_push_of_some _ x)⟩
def iEnumB (bb : Bool) (ta : TA) : TI := fun σ H R => ta σ H fun vs H1 => ∃ a xs, vs = [.ref a] ∧ H1 a = some (hoB bb xs) ∧ R (IteB bb a) H1
theorem pi_enumB {X : Cx} {e : Expr} {ta : TA} {p pos tpos : Pos} {elts : List Expr} {kk : Nat} (bb : Bool) (hg : Gl X "enumerate") (hm : X.mg "enumerate" = none) (ha : PA X [e] ta) (hs : starEach [e] X.env = [(false, eval e X.env)]) :
    PI X (.Tuple elts kk tpos) (.Call (.Name "enumerate" p) [e] [] pos) (iEnumB bb ta) := by
  refine ⟨fun pins s σ H R I h => Call_ (ld_blt I hg hm boot_enumerate (PyProof.Rows.callWith_type1 (thn (ha.run pos pins s σ H _ I h) fun us s1 ⟨vs, H1, I1, r1, a, xs, ex, hq, q⟩ => ?_) hs rfl))⟩
  subst ex
  obtain ⟨u, rfl, r⟩ := Vals.one r1
  cases (show u = Value.ref a from r)
  obtain ⟨its, rv, ob, hz⟩ := src_ob I1 hq
  refine call_enum1 (begins_B bb a its.toArray) ob fun h' he hit hk => wpAny_pyIter_enum he ?_
  have I2 : Inv X pins σ H1 { s1 with heap := h' } := I1.kept (t' := s1.toks) hk
  refine ⟨s1.heap.objs.size + 1, [s1.heap.objs.size + 1, s1.heap.objs.size], _, _, H1, rfl, I2, turn_enumB bb a (s1.heap.objs.size + 1) s1.heap.objs.size, ⟨⟨.none, he⟩, ItB.of_get hit, Nat.succ_ne_self _⟩, fun b hb => ?_, q⟩
  have hle : s1.heap.objs.size ≤ b := by
    rcases (show b = s1.heap.objs.size + 1 ∨ b = s1.heap.objs.size by simpa using hb) with z | z <;> rw [z]
    · exact Nat.le_add_right _ _
    · exact Nat.le_refl _
  exact I1.fpOk hle (I1.hok.fresh hle)

/-! ### zip of two -/
def ItzB (b1 b2 : Bool) (a b : Addr) : It :=
  ⟨fun i H => ∃ (xs ys : List V) (x y : V), H a = some (hoB b1 xs) ∧ H b = some (hoB b2 ys) ∧ xs[i]? = some x ∧ ys[i]? = some y,
    fun i H v H' => ∃ T x y, v = .ref T ∧ H T = none ∧ H' = upd H T (.tup [x, y]) ∧ (∀ xs, H a = some (hoB b1 xs) → xs[i]? = some x) ∧ ∀ ys, H b = some (hoB b2 ys) → ys[i]? = some y,
    fun i H => ∃ xs ys : List V, H a = some (hoB b1 xs) ∧ H b = some (hoB b2 ys) ∧ i ≤ xs.length ∧ i ≤ ys.length ∧ (i = xs.length ∨ i = ys.length)⟩
structure ZAp (z TI TO i1 i2 : Addr) : Prop where
  TIz : TI ≠ z
  TOz : TO ≠ z
  TITO : TI ≠ TO
  TIi1 : TI ≠ i1
  TIi2 : TI ≠ i2
  zi1 : z ≠ i1
  zi2 : z ≠ i2
  Ti1 : TO ≠ i1
  Ti2 : TO ≠ i2
  ii : i1 ≠ i2
theorem turn_zipB {P : Program} {w : World} {K : PySem.W.Frag} {elts : List Expr} {kk : Nat} {tpos : Pos} (b1 b2 : Bool) {a b z TI TO i1 i2 : Addr} (Z : ZAp z TI TO i1 i2) :
    Turn P w K (.Tuple elts kk tpos) (ItzB b1 b2 a b) [z, TI, TO, i1, i2] z (fun i h => IsZip h z TI TO .none ∧ IsTupOf2 h TI (.ref i1) (.ref i2) ∧ (∃ x y, IsTupOf2 h TO x y) ∧ ItB b1 h i1 a i ∧ ItB b2 h i2 b i) where
  mem := List.mem_cons_self
  obj := fun i h st c hc => by
    obtain ⟨hz, hTI, ⟨x, y, hTO⟩, h1, h2⟩ := st
    rcases (show c = z ∨ c = TI ∨ c = TO ∨ c = i1 ∨ c = i2 by simpa using hc) with rfl | rfl | rfl | rfl | rfl
    · exact ⟨_, hz, fun v q => nomatch q⟩
    · exact ⟨_, hTI, fun v q => nomatch q⟩
    · exact ⟨_, hTO, fun v q => nomatch q⟩
    · obtain ⟨o, q1, _, _, q2⟩ := h1.rec'; exact ⟨o, q1, q2⟩
    · obtain ⟨o, q1, _, _, q2⟩ := h2.rec'; exact ⟨o, q1, q2⟩
  keep := fun i h h' st k => by
    obtain ⟨hz, hTI, ⟨x, y, hTO⟩, h1, h2⟩ := st
    exact ⟨k z (by simp) _ hz, k TI (by simp) _ hTI, ⟨x, y, k TO (by simp) _ hTO⟩, h1.move fun o q => k i1 (by simp) o q, h2.move fun o q => k i2 (by simp) o q⟩
  item := by
    intro X hP hw hK hc i pins s σ H E I hf st hg
    subst hP hw hK
    obtain ⟨hz, hTI, ⟨x0, y0, hTO⟩, h1, h2⟩ := st
    obtain ⟨xs, ys, x, y, hqx, hqy, hx, hy⟩ := hg
    obtain ⟨its, rv, ob1, _⟩ := src_ob I hqx
    obtain ⟨its2, rv2, ob2, _⟩ := src_ob I hqy
    obtain ⟨u, hu, ru⟩ := rv.get hx
    obtain ⟨u2, hu2, ru2⟩ := rv2.get hy
    have trk : ∀ {c d : Addr} {bb : Bool} {l : List V}, c ∈ [z, TI, TO, i1, i2] → H d = some (hoB bb l) → c ≠ d := fun hm hd => by
      rintro rfl
      rw [(hf _ hm).1] at hd; cases hd
    have S : ZipSep2 z TI TO i1 i2 [i1, a] [i2, b] := ⟨Z.TIz, Z.TOz, Z.TITO, Z.TIi1, by simp, by simp [Z.zi1, trk (c := z) (by simp) hqx], by simp [Z.Ti1, trk (c := TO) (by simp) hqx], Z.TIi2, by simp, by simp [Z.zi2, trk (c := z) (by simp) hqy], by simp [Z.Ti2, trk (c := TO) (by simp) hqy],
      by simp [Z.ii, trk (c := i1) (by simp) hqy], by simp [Ne.symm Z.ii, trk (c := i2) (by simp) hqx]⟩
    have D1 := draws_B (prog := X.prog) (w := X.w) (A := X.A.in1) b1 (I.ok.hd hc) (Ne.symm (trk (c := i1) (by simp) hqx)) its.toArray
    have D2 := draws_B (prog := X.prog) (w := X.w) (A := X.A.in1) b2 (I.ok.hd hc) (Ne.symm (trk (c := i2) (by simp) hqy)) its2.toArray
    have l1 : i < its.toArray.size := by simpa using (List.getElem?_eq_some_iff.mp hu).1
    have l2 : i < its2.toArray.size := by simpa using (List.getElem?_eq_some_iff.mp hu2).1
    have hzl : z < s.heap.objs.size := Heap.lt_size hz
    refine wpAny_pyNext_zipD2_item S D1 D2 hz hTI hTO ⟨h1, ob1⟩ ⟨h2, ob2⟩ l1 l2 fun x' y' h' tk q1 q2 z' TO' h1' h2' hT hsz hk => ?_
    have ex : x' = u := by
      have q : its.toArray[i]? = some x' := q1
      rw [show its.toArray[i]? = some u by simpa using hu] at q
      exact (Option.some.inj q).symm
    have ey : y' = u2 := by
      have q : its2.toArray[i]? = some y' := q2
      rw [show its2.toArray[i]? = some u2 by simpa using hu2] at q
      exact (Option.some.inj q).symm
    subst ex ey
    refine ⟨_, rfl, wpAny_letOwnedTupleGo_zip (s := { s with heap := h', toks := tk }) z' fun h'' z'' sb => ?_⟩
    have hT2 : h''.get? s.heap.objs.size = some { cls := .type "tuple", data := .seq #[x', y'] } := (sb.2 _ (Nat.ne_of_gt hzl)).trans hT
    have new : ObjOk X.prog X.w (upd H s.heap.objs.size (.tup [x, y])) h'' s.heap.objs.size (.tup [x, y]) := ⟨(show 2 ≤ sizeLine by decide), [x', y'], .cons ru (.cons ru2 .nil), ⟨_, hT2, rfl, _, rfl⟩⟩
    have I1 : Inv X pins σ (upd H s.heap.objs.size (.tup [x, y])) { s with heap := h'', toks := tk } :=
      I.turnedNew (ch := [z, TI, TO, i1, i2]) (fun c o hb q => (sb.2 c (fun r => hb (by rw [r]; simp))).trans (hk c o (fun r => hb (by rw [r]; simp)) (fun r => hb (by rw [r]; simp)) (fun r => hb (by rw [r]; simp)) (fun r => hb (by rw [r]; simp)) q)) hf (Nat.le_refl _) new
    refine ⟨.ref s.heap.objs.size, _, I1, rfl, ⟨_, x, y, rfl, I.hok.fresh (Nat.le_refl _), rfl, fun l hl => by rw [hoB_inj hl hqx]; exact hx, fun l hl => by rw [hoB_inj hl hqy]; exact hy⟩,
      ⟨z'', (sb.2 _ Z.TIz).trans (hk _ _ Z.TIz Z.TITO Z.TIi1 Z.TIi2 hTI), ⟨x', y', (sb.2 _ Z.TOz).trans TO'⟩, h1'.1.move fun o q => (sb.2 _ (Ne.symm Z.zi1)).trans q, h2'.1.move fun o q => (sb.2 _ (Ne.symm Z.zi2)).trans q⟩, fun c hcm => ?_⟩
    have hlt : c < s.heap.objs.size := by
      rcases (show c = z ∨ c = TI ∨ c = TO ∨ c = i1 ∨ c = i2 by simpa using hcm) with q | q | q | q | q <;> rw [q]
      · exact hzl
      · exact Heap.lt_size hTI
      · exact Heap.lt_size hTO
      · exact let ⟨_, e1, _⟩ := h1.rec'; Heap.lt_size e1
      · exact let ⟨_, e1, _⟩ := h2.rec'; Heap.lt_size e1
    rw [upd_ne (Nat.ne_of_lt hlt)]
    exact (hf c hcm).1
  done := by
    intro X hP hw hK hc i pins s σ H E I hf st hg
    subst hP hw hK
    obtain ⟨hz, hTI, ⟨x0, y0, hTO⟩, h1, h2⟩ := st
    obtain ⟨xs, ys, hqx, hqy, le1, le2, hend⟩ := hg
    obtain ⟨its, rv, ob1, _⟩ := src_ob I hqx
    obtain ⟨its2, rv2, ob2, _⟩ := src_ob I hqy
    have trk : ∀ {c d : Addr} {bb : Bool} {l : List V}, c ∈ [z, TI, TO, i1, i2] → H d = some (hoB bb l) → c ≠ d := fun hm hd => by
      rintro rfl
      rw [(hf _ hm).1] at hd; cases hd
    have S : ZipSep2 z TI TO i1 i2 [i1, a] [i2, b] := ⟨Z.TIz, Z.TOz, Z.TITO, Z.TIi1, by simp, by simp [Z.zi1, trk (c := z) (by simp) hqx], by simp [Z.Ti1, trk (c := TO) (by simp) hqx], Z.TIi2, by simp, by simp [Z.zi2, trk (c := z) (by simp) hqy], by simp [Z.Ti2, trk (c := TO) (by simp) hqy],
      by simp [Z.ii, trk (c := i1) (by simp) hqy], by simp [Ne.symm Z.ii, trk (c := i2) (by simp) hqx]⟩
    have D1 := draws_B (prog := X.prog) (w := X.w) (A := X.A.in1) b1 (I.ok.hd hc) (Ne.symm (trk (c := i1) (by simp) hqx)) its.toArray
    have D2 := draws_B (prog := X.prog) (w := X.w) (A := X.A.in1) b2 (I.ok.hd hc) (Ne.symm (trk (c := i2) (by simp) hqy)) its2.toArray
    have e1 := rv.length
    have e2 := rv2.length
    exact wpAny_pyNext_zipD2_end S D1 D2 hz hTI hTO ⟨h1, ob1⟩ ⟨h2, ob2⟩ (by simp; omega) (by simp; omega) (by simp; omega) fun h' tk hk => ⟨rfl, I.turnedL (ch := [z, TI, TO, i1, i2]) (fun c o hb q =>
      hk c o (fun r => hb (by rw [r]; simp)) (fun r => hb (by rw [r]; simp)) (fun r => hb (by rw [r]; simp)) (fun r => hb (by rw [r]; simp)) q) hf⟩
  self := fun A i s Q E st h => wpAny_pyIter_zip st.1 h
def iZipB (b1 b2 : Bool) (ta : TA) : TI := fun σ H R => ta σ H fun vs H1 => ∃ a b xs ys, vs = [.ref a, .ref b] ∧ H1 a = some (hoB b1 xs) ∧ H1 b = some (hoB b2 ys) ∧ R (ItzB b1 b2 a b) H1
theorem pi_zipB {X : Cx} {e e2 : Expr} {ta : TA} {p pos tpos : Pos} {elts : List Expr} {kk : Nat} (b1 b2 : Bool) (hg : Gl X "zip") (hm : X.mg "zip" = none) (ha : PA X [e, e2] ta)
    (hs : starEach [e, e2] X.env = (false, eval e X.env) :: starEach [e2] X.env) (hpl : (backTo pos (starEach [e2] X.env)).any (·.1) = false) : PI X (.Tuple elts kk tpos) (.Call (.Name "zip" p) [e, e2] [] pos) (iZipB b1 b2 ta) := by
  refine ⟨fun pins s σ H R I h => Call_ (ld_blt I hg hm PyProof.Rows.boot_zip (PyProof.Rows.callWith_type1 (thn (ha.run pos pins s σ H _ I h) fun us s1 ⟨vs, H1, I1, r1, a, b, xs, ys, ex, hqx, hqy, q⟩ => ?_) hs hpl))⟩
  subst ex
  obtain ⟨u, v, rfl, r, r'⟩ := Vals.two r1
  cases (show u = Value.ref a from r)
  cases (show v = Value.ref b from r')
  obtain ⟨its, rv, ob1, _⟩ := src_ob I1 hqx
  obtain ⟨its2, rv2, ob2, _⟩ := src_ob I1 hqy
  refine zip_begins2 (begins_B b1 a its.toArray) (begins_B b2 b its2.toArray) ob1 ob2 fun h' hz hTI hTO h1 h2 hsz hk => wpAny_pyIter_zip hz ?_
  have I2 : Inv X pins σ H1 { s1 with heap := h' } := I1.kept (t' := s1.toks) hk
  have nes : ∀ m n : Nat, m ≠ n → s1.heap.objs.size + m ≠ s1.heap.objs.size + n := fun m n h q => h (Nat.add_left_cancel q)
  refine ⟨s1.heap.objs.size + 4, [s1.heap.objs.size + 4, s1.heap.objs.size + 2, s1.heap.objs.size + 3, s1.heap.objs.size, s1.heap.objs.size + 1], _, _, H1, rfl, I2,
    turn_zipB b1 b2 ⟨nes 2 4 (by decide), nes 3 4 (by decide), nes 2 3 (by decide), nes 2 0 (by decide), nes 2 1 (by decide), nes 4 0 (by decide), nes 4 1 (by decide), nes 3 0 (by decide), nes 3 1 (by decide), nes 0 1 (by decide)⟩,
    ⟨hz, hTI, ⟨_, _, hTO⟩, ItB.of_get h1, ItB.of_get h2⟩, fun c hcm => ?_, q⟩
  have hle : s1.heap.objs.size ≤ c := by
    rcases (show c = s1.heap.objs.size + 4 ∨ c = s1.heap.objs.size + 2 ∨ c = s1.heap.objs.size + 3 ∨ c = s1.heap.objs.size ∨ c = s1.heap.objs.size + 1 by simpa using hcm) with z | z | z | z | z <;> rw [z] <;> first | exact Nat.le_add_right _ _ | exact Nat.le_refl _
  exact I1.fpOk hle (I1.hok.fresh hle)

/-! ### over the shapes -/
section
variable {c : Cc} {Γ : En} {ω ω1 ω2 : Ws} {a b : Expr} {α β : Type} {Rs : α → Sh} {Rt' : β → Sh} {xs : List α} {ys : List β} {bb b1 b2 : Bool} {pos p tpos : Pos} {elts : List Expr} {kk : Nat}
theorem sq_ho {B : Hp} {v : V} (h : (Sq bb Rs xs).p B v) : ∃ a vs, v = .ref a ∧ B a = some (hoB bb vs) ∧ All2 (fun v x => (Rs x).p B v) vs xs := h
theorem i_enum (h : DE c Γ ω a (Sq bb Rs xs) ω1) (hm : c.M.mg "enumerate" = none) (hg : Glo c.sc "enumerate" := by exact rfl) (he : ∀ env, starEach [a] env = [(false, eval a env)] := by intro _; rfl) :
    DI c Γ ω (.Tuple elts kk tpos) (.Call (.Name "enumerate" p) [a] [] pos) xs.length (fun i (y : Int × α) => y.1 = (i : Int) ∧ xs[i]? = some y.2) (fun y => U [I y.1, Rs y.2]) ω1 := by
  intro X fx F σ B H hE hO R hR
  refine tI.of (pi_enumB bb (gl_of fx hg) (by rw [fx.mg]; exact hm) pa_w (he _)) ?_
  refine a_cons h a_nil (by intro env; rw [he]; rfl) X fx F σ B H hE hO _ fun vs B1 H1 e1 O1 p1 => ?_
  obtain ⟨v, rfl, hv⟩ := all1 p1
  obtain ⟨a1, us, rfl, g0, g2⟩ := sq_ho hv
  refine ⟨a1, us, rfl, O1.ex _ _ g0, hR _ B1 H1 e1 O1 fun B2 H2 e2 e3 => ?_⟩
  have G : H2 a1 = some (hoB bb us) := e3 _ _ (e2 _ _ g0)
  have hl := g2.len
  refine ⟨fun i hi => ⟨us, us[i]'(by omega), G, by simp [show i < us.length by omega]⟩, ⟨us, G, hl⟩, fun i hi x H3 y => ?_⟩
  obtain ⟨T, z, rfl, hT, rfl, hz⟩ := y
  obtain ⟨y, q1, q2⟩ := g2.get' (hz us G)
  refine ⟨((i : Int), y), ⟨rfl, q1⟩, .inr ⟨T, _, hT, rfl, fun hB => ?_⟩⟩
  have e4 : Ex B2 (upd B2 T (.tup [.int (i : Nat), z])) := Ex.new hB
  exact ⟨T, _, rfl, upd_same, .cons rfl (.cons ((Rs y).mono (e2.trans e4) q2) .nil)⟩
theorem i_zip (h : DE c Γ ω a (Sq b1 Rs xs) ω1) (h' : DE c Γ ω1 b (Sq b2 Rt' ys) ω2) (hm : c.M.mg "zip" = none) (hg : Glo c.sc "zip" := by exact rfl) (he : ∀ env, starEach [a, b] env = (false, eval a env) :: starEach [b] env := by intro _; rfl) (he2 : ∀ env, starEach [b] env = (false, eval b env) :: starEach [] env := by intro _; rfl)
    (hpl : ∀ env, (backTo pos (starEach [b] env)).any (·.1) = false := by intro _; rfl) :
    DI c Γ ω (.Tuple elts kk tpos) (.Call (.Name "zip" p) [a, b] [] pos) (min xs.length ys.length) (fun i (y : α × β) => xs[i]? = some y.1 ∧ ys[i]? = some y.2) (fun y => U [Rs y.1, Rt' y.2]) ω2 := by
  intro X fx F σ B H hE hO R hR
  refine tI.of (pi_zipB b1 b2 (gl_of fx hg) (by rw [fx.mg]; exact hm) pa_w (he _) (hpl _)) ?_
  refine a_cons h (a_cons h' a_nil he2) he X fx F σ B H hE hO _ fun vs B1 H1 e1 O1 p1 => ?_
  obtain ⟨v, u, rfl, hv, hu⟩ := all2 p1
  obtain ⟨a1, us, rfl, g0, g2⟩ := sq_ho hv
  obtain ⟨a2, ws, rfl, k0, k2⟩ := sq_ho hu
  refine ⟨a1, a2, us, ws, rfl, O1.ex _ _ g0, O1.ex _ _ k0, hR _ B1 H1 e1 O1 fun B2 H2 e2 e3 => ?_⟩
  have G : H2 a1 = some (hoB b1 us) := e3 _ _ (e2 _ _ g0)
  have G2 : H2 a2 = some (hoB b2 ws) := e3 _ _ (e2 _ _ k0)
  have hl := g2.len
  have hl2 := k2.len
  refine ⟨fun i hi => ⟨us, ws, us[i]'(by omega), ws[i]'(by omega), G, G2, by simp [show i < us.length by omega], by simp [show i < ws.length by omega]⟩, ⟨us, ws, G, G2, by omega, by omega, by omega⟩, fun i hi x H3 y => ?_⟩
  obtain ⟨T, z, z2, rfl, hT, rfl, hz, hz2⟩ := y
  obtain ⟨y, q1, q2⟩ := g2.get' (hz us G)
  obtain ⟨y2, r1, r2⟩ := k2.get' (hz2 ws G2)
  refine ⟨(y, y2), ⟨q1, r1⟩, .inr ⟨T, _, hT, rfl, fun hB => ?_⟩⟩
  have e4 : Ex B2 (upd B2 T (.tup [z, z2])) := Ex.new hB
  exact ⟨T, _, rfl, upd_same, .cons ((Rs y).mono (e2.trans e4) q2) (.cons ((Rt' y2).mono (e2.trans e4) r2) .nil)⟩
end
end ZZ

set_option maxHeartbeats 2000000
/-! Z6: list comprehensions with one for. -/
namespace ZZ
open PySem PySem.Spec PyProof.Rows L2
open Evl (Ex)

theorem wipe_mem {σ : L2.St} {i : Nat} : ∀ {vs : List Nat}, i ∈ vs → i < σ.length → (wipe σ vs)[i]? = some none
  | [], h, _ => by cases h
  | v :: vs, h, hl => by
    unfold wipe
    by_cases e : v = i
    · subst e
      rw [List.getElem?_set_self (by rw [wipe_length]; exact hl)]
    · rw [List.getElem?_set_ne e]
      exact wipe_mem ((List.mem_cons.mp h).resolve_left fun z => e z.symm) hl
theorem wipe_not {σ : L2.St} {i : Nat} : ∀ {vs : List Nat}, i ∉ vs → (wipe σ vs)[i]? = σ[i]?
  | [], _ => rfl
  | v :: vs, h => by
    unfold wipe
    rw [List.getElem?_set_ne (fun e => h (by rw [e]; exact List.mem_cons_self))]
    exact wipe_not fun z => h (List.mem_cons_of_mem _ z)
theorem EnvOk.len : ∀ {Γ : En} {σ : L2.St} {B : Hp}, EnvOk Γ σ B → σ.length = Γ.length
  | [], [], _, _ => rfl
  | (_, none) :: Γ, _ :: σ, _, h => by simp [EnvOk.len (Γ := Γ) (σ := σ) h]
  | (_, some _) :: Γ, _ :: σ, _, h => by simp [EnvOk.len (Γ := Γ) (σ := σ) h.2]
  | [], _ :: _, _, h => h.elim
  | (_, none) :: _, [], _, h => h.elim
  | (_, some _) :: _, [], _, h => h.elim
theorem Put.wipe1 : ∀ {Γ Γ' : En} {x : Str}, Put Γ x none Γ' → ∃ i : Nat, (Γ.map (·.1))[i]? = some x ∧ ∀ (σ : L2.St) (B : Hp), EnvOk Γ σ B → EnvOk Γ' (σ.set i none) B
  | _, _, _, .z (Γ := Γ) (x := x) (o := o) => by
    refine ⟨0, rfl, fun σ B h => ?_⟩
    cases σ with
    | nil => cases o <;> exact h.elim
    | cons a σ =>
      cases o with
      | none => exact h
      | some T => exact h.2
  | _, _, _, .s (e := e) hp => by
    obtain ⟨i, h1, h2⟩ := Put.wipe1 hp
    refine ⟨i + 1, by simpa using h1, fun σ B h => ?_⟩
    obtain ⟨y, o⟩ := e
    cases σ with
    | nil => cases o <;> exact h.elim
    | cons a σ =>
      cases o with
      | none => exact h2 σ B h
      | some T => exact ⟨h.1, h2 σ B h.2⟩
/-- the comprehension's own names are forgotten -/
inductive Wip : En → List (Str × Nat) → En → Prop
  | nil {Γ} : Wip Γ [] Γ
  | cons {Γ Γ1 Γ2 own x i} : Wip Γ own Γ1 → Put Γ1 x none Γ2 → Wip Γ ((x, i) :: own) Γ2
theorem Wip.names : ∀ {Γ Γ' : En} {own : List (Str × Nat)}, Wip Γ own Γ' → Γ'.map (·.1) = Γ.map (·.1)
  | _, _, _, .nil => rfl
  | _, _, _, .cons w p => p.names.trans w.names
theorem Wip.env {N : List Str} (nd : N.Nodup) : ∀ {Γ Γ' : En} {own : List (Str × Nat)} {σ : L2.St} {B : Hp}, Wip Γ own Γ' → Γ.map (·.1) = N → (∀ p ∈ own, N[p.2]? = some p.1) → EnvOk Γ σ B → EnvOk Γ' (wipe σ (own.map (·.2))) B
  | _, _, _, _, _, .nil, _, _, h => h
  | _, _, _, _, _, .cons (x := x) (i := i) w p, hN, ix, h => by
    have ih := w.env nd hN (fun q hq => ix q (List.mem_cons_of_mem _ hq)) h
    obtain ⟨j, h1, h2⟩ := p.wipe1
    have e : j = i := nodup_ix nd (by rw [← hN, ← w.names]; exact h1) (ix _ List.mem_cons_self)
    subst e
    exact h2 _ _ ih
theorem wipe_only {N ns : List Str} {own : List (Str × Nat)} {σ σ2 : L2.St} (nd : N.Nodup) (hl : σ.length = N.length) (ix : ∀ p ∈ own, N[p.2]? = some p.1) (hs : ∀ x ∈ ns, x ∈ own.map (·.1)) (o : Only N ns (wipe σ (own.map (·.2))) σ2) :
    wipe σ2 (own.map (·.2)) = wipe σ (own.map (·.2)) := by
  have l2 : σ2.length = σ.length := by rw [o.1, wipe_length]
  refine List.ext_getElem? fun i => ?_
  by_cases hi : i < σ.length
  · by_cases hm : i ∈ own.map (·.2)
    · rw [wipe_mem hm hi, wipe_mem hm (by omega)]
    · rw [wipe_not hm, o.2 i N[i] (List.getElem?_eq_getElem (by omega)) fun hx => ?_]
      obtain ⟨⟨y, j⟩, hp, e⟩ := List.mem_map.mp (hs _ hx)
      have q := ix _ hp
      have e : y = N[i] := e
      rw [e] at q
      have : j = i := nodup_ix nd q (List.getElem?_eq_getElem (by omega))
      subst this
      exact hm (List.mem_map.mpr ⟨_, hp, rfl⟩)
  · rw [List.getElem?_eq_none (by rw [wipe_length]; omega), List.getElem?_eq_none (by rw [wipe_length]; omega)]
theorem Fits.blk {c : Cc} {N : List Str} {X : Cx} (fx : Fits c N X) (s : Shared) (H : Hp) (scope : Scope) (C : Addr) (cl : List (Str × Addr)) (fp : List Addr) : Fits ⟨c.M, relS scope c.sc, c.k, false⟩ N (X.blk s H scope (compEnvC scope cl C X.env) fp) :=
  ⟨fx.prog, fx.w, fx.K, fx.mg, fx.base, (by show relS scope X.env.scope = _; rw [fx.sc]), fx.ns, fx.nd, fx.calm, fx.room, (fun h => nomatch h), PassesOwn.never⟩
/-- a new list of which something is known -/
def DNE {α : Type} (c : Cc) (Γ : En) (ω : Ws) (e : Expr) (P : List α → Prop) (R : α → Sh) (ω' : Ws) : Prop :=
  ∀ X, Fits c (Γ.map (·.1)) X → ∀ F σ B H, EnvOk Γ σ B → Own F ω B H → ∀ Q : VK, (∀ l ys B' H', P ys → Ex B B' → Own F (ω' ++ [(l, Cl R ys)]) B' H' → Q (.ref l) H') → tW X e σ H Q
theorem DNE.dn {α : Type} {c : Cc} {Γ : En} {ω ω' : Ws} {e : Expr} {R : α → Sh} {xs : List α} (h : DNE c Γ ω e (· = xs) R ω') : DN c Γ ω e R xs ω' := fun X fx F σ B H hE hO Q hQ =>
  h X fx F σ B H hE hO Q fun l ys B' H' e => by subst e; exact hQ l B' H'
theorem DNE.frz {α : Type} {c : Cc} {Γ : En} {ω ω' : Ws} {e : Expr} {R : α → Sh} {P : List α → Prop} (h : DNE c Γ ω e P R ω') : DE c Γ ω e (Es P (L R)) ω' := fun X fx F σ B H hE hO Q hQ =>
  h X fx F σ B H hE hO Q fun l ys B' H' hy e1 O1 => by
    obtain ⟨o, h1, ⟨vs, rfl, h3⟩, O2, e2⟩ := O1.freeze tak_last
    exact hQ _ _ _ (e1.trans e2) O2 ⟨ys, hy, l, vs, rfl, upd_same, h3.mp fun _ s q => (R s).mono e2 q⟩
theorem swp_last {ω : Ws} {l : Addr} {C C' : Co} : Swp (ω ++ [(l, C)]) l C C' (ω ++ [(l, C')]) := by
  induction ω with
  | nil => exact .z
  | cons e ω ih => exact .s ih
def gBlk (X : Cx) (scope : Scope) (tg : Expr) : TG := fun v σ H Q => ∀ s H0 C cl fp, tG (X.blk s H0 scope (compEnvC scope cl C X.env) fp) tg v σ H Q
def eBlk (X : Cx) (scope : Scope) (e : Expr) : TE := fun σ H Q => ∀ s H0 C cl fp, tW (X.blk s H0 scope (compEnvC scope cl C X.env) fp) e σ H Q
def cBlk (X : Cx) (scope : Scope) (ifs : List Expr) : TT := match ifs with
  | [t] => fun σ H Q => ∀ s H0 C cl fp, tT (X.blk s H0 scope (compEnvC scope cl C X.env) fp) t σ H Q
  | _ => tYes
/-- one test, or none -/
def DC (c : Cc) (Γ : En) (ω : Ws) (ifs : List Expr) (R : Bool → Prop) : Prop := match ifs with
  | [] => R true
  | [t] => DT c Γ ω t R ω
  | _ => False
section
variable {c : Cc} {Γ Γw : En} {ω ω1 : Ws} {tg it elt : Expr} {ifs : List Expr} {scope : Scope} {own : List (Str × Nat)} {α β : Type} {W : Nat → β → Prop} {Rb : β → Sh} {R : α → Sh} {n : Nat} {pos : Pos} {J : Nat → List α → Prop}
theorem lc_core' {X : Cx} {F : Hp} {σ : L2.St} {B H : Hp} (fx : Fits c (Γ.map (·.1)) X) (hE : EnvOk Γ σ B) (hO : Own F ω B H) (ok : BlkOk (Γ.map (·.1)) c.sc scope own) (hw : Wip Γ own Γw) (hi : DI c Γ ω tg it n W Rb ω1) (h0 : J 0 []) (hz : n < sizeLine) (hi1 : ifs = [] ∨ ∃ t, ifs = [t])
    (hb : ∀ i y ys, i < n → W i y → J i ys → ∃ Γb ns Rt', DG ⟨c.M, relS scope c.sc, c.k, false⟩ tg ns (Rb y) Γw Γb ∧ (∀ x ∈ ns, x ∈ own.map (·.1)) ∧ DC ⟨c.M, relS scope c.sc, c.k, false⟩ Γb ω1 ifs Rt' ∧
      (Rt' true → DE ⟨c.M, relS scope c.sc, c.k, false⟩ Γb ω1 elt (Es (fun z => J (i + 1) (ys ++ [z])) R) ω1) ∧ (Rt' false → J (i + 1) ys))
    {Q : VK} (hQ : ∀ l ys B' H', J n ys → Ex B B' → Own F (ω1 ++ [(l, Cl R ys)]) B' H' → Q (.ref l) H') :
    tLc (tI X tg it) (gBlk X scope tg) (cBlk X scope ifs) (eBlk X scope elt) (own.map (·.2)) σ H Q := by
  refine hi X fx F σ B H hE hO _ fun It B1 H1 e1 O1 hit D hD => ?_
  have hl : σ.length = (Γ.map (·.1)).length := by rw [hE.len, List.length_map]
  refine ⟨fun i m H' => m = n - i ∧ i ≤ n ∧ ∃ ys B', ys.length ≤ i ∧ J i ys ∧ Ex B1 B' ∧ Own F (ω1 ++ [(D, Cl R ys)]) B' H', ⟨n, by simp, Nat.zero_le _, [], B1, Nat.le_refl _, h0, Ex.refl B1, O1.add hD (C := Cl R []) ⟨[], rfl, .nil⟩⟩, ?_⟩
  rintro i m H2 ⟨rfl, hin, ys, B2, hys, hJ, e2, O2⟩
  obtain ⟨q1, q2, q3⟩ := hit B2 H2 e2 O2.ex
  by_cases hlt : i < n
  · refine .inr ⟨q1 i hlt, fun H' => ∃ ys B', ys.length ≤ i + 1 ∧ J (i + 1) ys ∧ Ex B1 B' ∧ Own F (ω1 ++ [(D, Cl R ys)]) B' H', fun H' q => ⟨n - (i + 1), by omega, rfl, hlt, q⟩, fun x H3 yl => ?_⟩
    obtain ⟨y, hy, q⟩ := q3 i hlt x H3 yl
    obtain ⟨Γb, ns, Rt', hg, hs, hc, he, hf⟩ := hb i y ys hlt hy hJ
    have hEw : EnvOk Γw (wipe σ (own.map (·.2))) B2 := (hw.env fx.nd rfl ok.ix hE).mono (e1.trans e2)
    have fx' := fx.re hw.names
    -- behind the yield
    obtain ⟨B3, e3, O3, hx⟩ : ∃ B3, Ex B2 B3 ∧ Own F (ω1 ++ [(D, Cl R ys)]) B3 H3 ∧ (Rb y).p B3 x := by
      rcases q with ⟨rfl, q⟩ | ⟨T, o, hT, rfl, q⟩
      · exact ⟨B2, Ex.refl B2, O2, q⟩
      · obtain ⟨O4, e4⟩ := O2.new (o := o) hT
        exact ⟨_, e4, O4, q (O2.none_of hT).1⟩
    intro s H0 C cl fp
    refine hg.2 _ (fx'.blk s H0 scope C cl fp) _ B3 H3 x (hEw.mono e3) O3.ex hx _ fun σ2 hE2 on => ⟨wipe_only fx.nd hl ok.ix hs (by rw [hw.names] at on; exact on), ?_⟩
    have fxb : ∀ s H0 C cl fp, Fits ⟨c.M, relS scope c.sc, c.k, false⟩ (Γb.map (·.1)) (X.blk s H0 scope (compEnvC scope cl C X.env) fp) := fun s H0 C cl fp => (fx'.blk s H0 scope C cl fp).re hg.1
    -- the test, then the element
    have go : ∀ b B4 H4, Ex B3 B4 → Own F (ω1 ++ [(D, Cl R ys)]) B4 H4 → Rt' b → if b = true then eBlk X scope elt σ2 H4 fun y H5 => ∃ acc, H5 D = some (.lst acc) ∧ acc.length < sizeLine ∧ ∃ ys B', ys.length ≤ i + 1 ∧ J (i + 1) ys ∧ Ex B1 B' ∧ Own F (ω1 ++ [(D, Cl R ys)]) B' (upd H5 D (.lst (acc ++ [y])))
        else ∃ ys B', ys.length ≤ i + 1 ∧ J (i + 1) ys ∧ Ex B1 B' ∧ Own F (ω1 ++ [(D, Cl R ys)]) B' H4 := fun b B4 H4 e4 O4 hr => by
      cases b with
      | false => exact ⟨ys, B4, by omega, hf hr, (e2.trans e3).trans e4, O4⟩
      | true =>
        show eBlk X scope elt σ2 H4 _
        intro s H0 C cl fp
        refine he hr _ (fxb s H0 C cl fp) _ σ2 B4 H4 (hE2.mono e4) O4.focus _ fun v B5 H5 e5 O5 hv => ?_
        obtain ⟨z, hz', hv⟩ := hv
        have O6 := O4.unfocus e5 O5 rfl
        obtain ⟨_, _, o, h2, us, rfl, h3⟩ := O6.ow _ _ (List.mem_append_right _ List.mem_cons_self)
        refine ⟨us, h2, by rw [h3.len]; omega, ys ++ [z], B5, by simp; omega, hz', ((e2.trans e3).trans e4).trans e5, O6.swp swp_last ⟨_, rfl, h3.append (.cons hv .nil)⟩⟩
    rcases hi1 with rfl | ⟨t, rfl⟩
    · exact go true B3 H3 (Ex.refl B3) O3 hc
    · intro s H0 C cl fp
      refine DT.run_ hc (fxb s H0 C cl fp) hE2 O3.focus fun b B4 H4 e4 O4 hr => ?_
      exact go b B4 H4 e4 (O3.unfocus e4 O4 rfl) hr
  · have e : i = n := by omega
    subst e
    exact .inl ⟨q2, hQ D ys B2 H2 hJ (e1.trans e2) O2⟩
where
  DT.run_ {c : Cc} {Γ : En} {ω : Ws} {t : Expr} {R : Bool → Prop} (h : DT c Γ ω t R ω) {X : Cx} (fx : Fits c (Γ.map (·.1)) X) {F : Hp} {σ : L2.St} {B H : Hp} (hE : EnvOk Γ σ B) (hO : Own F ω B H) {Q : Bool → Hp → Prop} (hQ : ∀ b B' H', Ex B B' → Own F ω B' H' → R b → Q b H') : tT X t σ H Q := h X fx F σ B H hE hO Q hQ
theorem pts_blk {X : Cx} (hi1 : ifs = [] ∨ ∃ t, ifs = [t]) (s : Shared) (H0 : Hp) (C : Addr) (cl : List (Str × Addr)) (fp : List Addr) : PTs (X.blk s H0 scope (compEnvC scope cl C X.env) fp) ifs (cBlk X scope ifs) := by
  rcases hi1 with rfl | ⟨t, rfl⟩
  · exact pts_nil
  · exact pts_one ⟨fun pins s' σ H Q I h => h s H0 C cl fp pins s' I⟩
theorem n_lc (ok : BlkOk (Γ.map (·.1)) c.sc scope own) (hw : Wip Γ own Γw) (hi : DI c Γ ω tg it n W Rb ω1) (J : Nat → List α → Prop) (h0 : J 0 []) (hz : n < sizeLine) (hi1 : ifs = [] ∨ ∃ t, ifs = [t])
    (hb : ∀ i y ys, i < n → W i y → J i ys → ∃ Γb ns Rt', DG ⟨c.M, relS scope c.sc, c.k, false⟩ tg ns (Rb y) Γw Γb ∧ (∀ x ∈ ns, x ∈ own.map (·.1)) ∧ DC ⟨c.M, relS scope c.sc, c.k, false⟩ Γb ω1 ifs Rt' ∧
      (Rt' true → DE ⟨c.M, relS scope c.sc, c.k, false⟩ Γb ω1 elt (Es (fun z => J (i + 1) (ys ++ [z])) R) ω1) ∧ (Rt' false → J (i + 1) ys))
    (hs : ∀ env x, foldedSetIterable it env x = pure x := by intro _ _; rfl) : DNE c Γ ω (.ListComp elt [⟨tg, it, ifs, 0⟩] scope pos) (J n) R ω1 := by
  intro X fx F σ B H hE hO Q hQ
  refine tW.of (pe_lc (own := own) fx.calm (by rw [fx.ns]; exact fx.nd) pi_w (by rw [fx.ns, fx.sc]; exact ok) (g := gBlk X scope tg) (te := eBlk X scope elt) (fun s H0 C cl fp => ⟨fun pins s' σ H v u Q I r h => h s H0 C cl fp pins s' u I r⟩) (fun s H0 C cl fp => pts_blk hi1 s H0 C cl fp)
    (fun s H0 C cl fp => ⟨fun pins s' σ H Q I h => h s H0 C cl fp pins s' I⟩) (hs _)) ?_
  exact lc_core' fx hE hO ok hw hi h0 hz hi1 hb hQ
/-- [f(x) for x in ..]: what stands at each place is known -/
theorem n_lcM (ok : BlkOk (Γ.map (·.1)) c.sc scope own) (hw : Wip Γ own Γw) (hi : DI c Γ ω tg it n W Rb ω1) (zs : List α) (hn : zs.length = n) (hz : n < sizeLine)
    (hb : ∀ i y z, W i y → zs[i]? = some z → ∃ Γb ns, DG ⟨c.M, relS scope c.sc, c.k, false⟩ tg ns (Rb y) Γw Γb ∧ (∀ x ∈ ns, x ∈ own.map (·.1)) ∧ DE ⟨c.M, relS scope c.sc, c.k, false⟩ Γb ω1 elt (R z) ω1)
    (hs : ∀ env x, foldedSetIterable it env x = pure x := by intro _ _; rfl) : DN c Γ ω (.ListComp elt [⟨tg, it, [], 0⟩] scope pos) R zs ω1 := by
  refine DNE.dn ?_
  have h := n_lc (R := R) (pos := pos) (ifs := []) (elt := elt) ok hw hi (fun i ys => ys = zs.take i) (by simp) hz (.inl rfl) (fun i y ys hi hy hJ => ?_) hs
  · have e : (fun ys : List α => ys = zs.take n) = (· = zs) := by
      funext ys
      rw [List.take_of_length_le (by omega)]
    rw [e] at h
    exact h
  · have hz : zs[i]? = some zs[i] := List.getElem?_eq_getElem (by omega)
    obtain ⟨Γb, ns, hg, hs, he⟩ := hb i y _ hy hz
    refine ⟨Γb, ns, (· = true), hg, hs, rfl, fun _ => he.wide fun B v q => ⟨zs[i], ?_, q⟩, fun z => nomatch z⟩
    rw [hJ, List.take_add_one, hz]
    rfl
end
/-! ### y = [..] on one line -/
section
variable {c : Cc} {X : Cx} {B0 F : Hp} {D : Ends} {Γ Γw Γ0 : En} {ω ω1 : Ws} {tg it elt : Expr} {ifs : List Expr} {scope : Scope} {own : List (Str × Nat)} {α β : Type} {W : Nat → β → Prop} {Rb : β → Sh} {R : α → Sh} {n : Nat} {pos spos py : Pos} {y : Str} {rest : List Stmt}
theorem ds_lc (ok : BlkOk (Γ.map (·.1)) c.sc scope own) (hw : Wip Γ own Γw) (hi : DI c Γ ω tg it n W Rb ω1) (J : Nat → List α → Prop) (h0 : J 0 []) (hz : n < sizeLine) (hi1 : ifs = [] ∨ ∃ t, ifs = [t])
    (hb : ∀ i y ys, i < n → W i y → J i ys → ∃ Γb ns Rt', DG ⟨c.M, relS scope c.sc, c.k, false⟩ tg ns (Rb y) Γw Γb ∧ (∀ x ∈ ns, x ∈ own.map (·.1)) ∧ DC ⟨c.M, relS scope c.sc, c.k, false⟩ Γb ω1 ifs Rt' ∧
      (Rt' true → DE ⟨c.M, relS scope c.sc, c.k, false⟩ Γb ω1 elt (Es (fun z => J (i + 1) (ys ++ [z])) R) ω1) ∧ (Rt' false → J (i + 1) ys))
    (hp : Put Γ y none Γ0) (k : ∀ l ys, J n ys → ∃ Γ1, Put Γ y (some (At l)) Γ1 ∧ DS c X B0 F D Γ1 (ω1 ++ [(l, Cl R ys)]) rest)
    (hyl : c.sc.names.lookup y = some .local := by exact rfl) (hk : c.sc.kind = .function := by exact rfl) (hln : (py.line == spos.line) = true := by rfl) (hpl : (py.line == pos.line) = true := by rfl) (ha : (scope.names.any fun (n, k) => n == y && (k == .local || k == .cell)) = false := by decide +kernel)
    (hs : ∀ env x, foldedSetIterable it env x = pure x := by intro _ _; rfl) : DS c X B0 F D Γ ω (.Assign [.Name y py] (.ListComp elt [⟨tg, it, ifs, 0⟩] scope pos) spos :: rest) := by
  intro fx σ B H hB hE hO
  obtain ⟨j, hj⟩ := hp.ix
  refine tS.cons (ps_setLc (i := j) (own := own) fx.calm (by rw [fx.ns]; exact fx.nd) (by rw [fx.ns]; exact hj) (by rw [fx.sc]; exact hyl) (sw_true (by rw [fx.sc]; exact hk) (by rw [fx.sc]; exact hyl) hpl ha) pi_w (by rw [fx.ns, fx.sc]; exact ok) (g := gBlk X scope tg) (te := eBlk X scope elt)
    (fun s H0 C cl fp => ⟨fun pins s' σ H v u Q I r h => h s H0 C cl fp pins s' u I r⟩) (fun s H0 C cl fp => pts_blk hi1 s H0 C cl fp) (fun s H0 C cl fp => ⟨fun pins s' σ H Q I h => h s H0 C cl fp pins s' I⟩) (hs _)) ?_
  refine lc_core' fx hE hO ok hw hi h0 hz hi1 hb fun l ys B1 H1 hJ e1 O1 => ?_
  obtain ⟨Γ1, hp1, k⟩ := k l ys hJ
  obtain ⟨j', h1, h2⟩ := hp1.set
  have e : j' = j := nodup_ix fx.nd h1 hj
  subst e
  exact k (fx.re hp1.names) _ B1 H1 (hB.trans e1) (h2 _ _ _ (hE.mono e1) rfl) O1
end
end ZZ

set_option maxHeartbeats 2000000
/-! Z7: a def that is there, tables, places, records of owned cells. -/
namespace ZZ
open PySem PySem.Spec PyProof.Rows L2
open Evl (Ex)

/-- the def of the text st stands at the module's name x -/
def Pr (M : Mo) (x : Str) (st : Stmt) (ps : List Str) : Prop := ∃ (f : Addr) (fd : FuncData), Fun M.K x x st f fd ∧ M.mg x = some (.ref f) ∧ Binds M.K fd ps []
theorem Pr.gd {τ : Type} {t : Ct τ} {M : Mo} {k : Nat} {x : Str} {st : Stmt} {N ps : List Str} (P : Pr M x st ps) (S : FnScope N ps (defScope st)) (hlen : ∀ g, (t.As g).length = ps.length)
    (hbody : ∀ (X : Cx) (B0 F0 : Hp) (D : Ends) (g : τ), t.pre g → Rt B0 F0 D.rt (t.S g) (t.ω' g) → (∀ σ H, D.rt .non H → D.nx σ H) → DS ⟨M, defScope st, k, true⟩ X B0 F0 D (mkΓ N (t.As g)) (t.ω g) (defBody st)) : Gd M (k + 1) x ps t := by
  obtain ⟨f, fd, F, hm, hb⟩ := P
  exact gd_of F S hm hb hlen hbody
theorem Gd.mono {τ : Type} {t : Ct τ} {M : Mo} {j k : Nat} {x : Str} {ps : List Str} (G : Gd M j x ps t) (h : j ≤ k) : Gd M k x ps t := by
  obtain ⟨f, fd, F, a, b, c⟩ := G
  exact ⟨f, fd, F.mono h, a, b, c⟩
/-- the built-ins' names that the module leaves alone -/
structure Blt (M : Mo) : Prop where
  len : M.mg "len" = none
  sum : M.mg "sum" = none
  max : M.mg "max" = none
  min : M.mg "min" = none
  range : M.mg "range" = none
  enumerate : M.mg "enumerate" = none
  zip : M.mg "zip" = none
  int : M.mg "int" = none
  bool : M.mg "bool" = none
  str : M.mg "str" = none
  isinstance : M.mg "isinstance" = none
  list : M.mg "list" = none
  tuple : M.mg "tuple" = none
  sorted : M.mg "sorted" = none

/-! ### tables and places -/
/-- the list f 0, .., f (n - 1) -/
def tab {α : Type} (f : Nat → α) (n : Nat) : List α := (List.range n).map f
theorem tab_len {α : Type} {f : Nat → α} {n : Nat} : (tab f n).length = n := by simp [tab]
theorem tab_succ {α : Type} {f : Nat → α} {n : Nat} : tab f (n + 1) = tab f n ++ [f n] := by simp [tab, List.range_succ]
theorem tab_get {α : Type} {f : Nat → α} {n i : Nat} (h : i < n) : (tab f n)[i]? = some (f i) := by
  unfold tab
  rw [List.getElem?_map, List.getElem?_range h]; rfl
theorem tab_get' {α : Type} {f : Nat → α} {n i : Nat} {y : α} (h : (tab f n)[i]? = some y) : i < n ∧ y = f i := by
  have hi : i < n := by
    have := (List.getElem?_eq_some_iff.mp h).1
    rwa [tab_len] at this
  rw [tab_get hi] at h
  exact ⟨hi, (Option.some.inj h).symm⟩
theorem tab_ext {α : Type} {f g : Nat → α} {n : Nat} (h : ∀ i, i < n → f i = g i) : tab f n = tab g n := by
  unfold tab
  exact List.map_congr_left fun i hi => h i (List.mem_range.mp hi)
theorem tab_set {α : Type} {f : Nat → α} {n j : Nat} {v : α} : (tab f n).set j v = tab (fun i => if i = j then v else f i) n := by
  refine List.ext_getElem? fun i => ?_
  by_cases hi : i < n
  · rw [tab_get hi]
    by_cases e : j = i
    · subst e
      rw [List.getElem?_set_self (by rw [tab_len]; exact hi), if_pos rfl]
    · rw [List.getElem?_set_ne e, tab_get hi, if_neg (fun z => e z.symm)]
  · rw [List.getElem?_eq_none (by rw [List.length_set, tab_len]; omega), List.getElem?_eq_none (by rw [tab_len]; omega)]
theorem atI_of {α : Type} {xs : List α} {k : Int} {j : Nat} {v : α} (hk : k = (j : Int)) (h : xs[j]? = some v) : L2.atI xs k = some v := by
  subst hk
  exact atI_nat h
theorem atI_neg {α : Type} {xs : List α} {k : Int} {j : Nat} {v : α} (hk : k = (j : Int) - (xs.length : Int)) (hj : j < xs.length) (h : xs[j]? = some v) : L2.atI xs k = some v := by
  have e : ixN xs.length k = some j := by
    unfold ixN
    rw [if_neg (by omega), if_pos (by omega)]
    congr 1
    omega
  unfold L2.atI
  rw [e]
  exact h
theorem ixN_of {n : Nat} {k : Int} {j : Nat} (hk : k = (j : Int)) (hj : j < n) : ixN n k = some j := by
  unfold ixN
  rw [if_pos (by omega), if_pos (by omega)]
  congr 1
  omega
section
variable {c : Cc} {Γ : En} {ω ω1 ω2 ω3 : Ws} {a b e : Expr} {pos p : Pos} {α : Type} {Rs : α → Sh} {xs : List α} {bb : Bool} {k : Int} {f : Nat → α} {n : Nat} {l : Addr} {S T : Sh}
/-- a[i] of a table -/
theorem d_ixT (ha : DE c Γ ω a (Sq bb Rs (tab f n)) ω1) (hb : DE c Γ ω1 b (I k) ω2) (j : Nat) (hk : k = (j : Int)) (hj : j < n) (hs : PlainIx b := by exact fun _ _ => rfl) : DE c Γ ω (.Subscript a b pos) (Rs (f j)) ω2 :=
  d_ix ha hb (atI_of hk (tab_get hj)) hs
theorem d_ixTO (ha : DE c Γ ω a (At l) ω1) (hb : DE c Γ ω1 b (I k) ω2) (hm : Hold ω2 l (Cl Rs (tab f n))) (j : Nat) (hk : k = (j : Int)) (hj : j < n) (hs : PlainIx b := by exact fun _ _ => rfl) : DE c Γ ω (.Subscript a b pos) (Rs (f j)) ω2 :=
  d_ixO ha hb hm (atI_of hk (tab_get hj)) hs
/-- the last one -/
theorem d_ixL (ha : DE c Γ ω a (At l) ω1) (hb : DE c Γ ω1 b (I (-1)) ω2) (hm : Hold ω2 l (Cl Rs (tab f (n + 1)))) (hs : PlainIx b := by exact fun _ _ => rfl) : DE c Γ ω (.Subscript a b pos) (Rs (f n)) ω2 :=
  d_ixO ha hb hm (by rw [tab_succ]; exact atI_last _ _) hs
theorem DE.eqI {i j : Int} (h : DE c Γ ω e (I i) ω1) (q : i = j) : DE c Γ ω e (I j) ω1 := q ▸ h
theorem DE.eqS {S T : Sh} (h : DE c Γ ω e S ω1) (q : S = T) : DE c Γ ω e T ω1 := q ▸ h

/-! ### owned cells of several kinds; owned cells of which something is known -/
def Cu (ss : List Sh) : Co := ⟨fun B o => ∃ vs, o = .lst vs ∧ All2 (fun v (s : Sh) => s.p B v) vs ss, fun e h => let ⟨vs, h1, h2⟩ := h; ⟨vs, h1, h2.mp fun _ s q => s.mono e q⟩⟩
def Ce {β : Type} (P : β → Prop) (C : β → Co) : Co := ⟨fun B o => ∃ x, P x ∧ (C x).p B o, fun e h => let ⟨x, h1, h2⟩ := h; ⟨x, h1, (C x).mono e h2⟩⟩
theorem d_ixOU {ss : List Sh} (ha : DE c Γ ω a (At l) ω1) (hb : DE c Γ ω1 b (I k) ω2) (hm : Hold ω2 l (Cu ss)) (h : L2.atI ss k = some S) (hs : PlainIx b := by exact fun _ _ => rfl) : DE c Γ ω (.Subscript a b pos) S ω2 := by
  intro X fx F σ B H hE hO Q hQ
  refine tW.of (pe_ix ix_list pe_w pe_w hs) ?_
  refine ha X fx F σ B H hE hO _ fun v B1 H1 e1 O1 p1 => ?_
  refine hb X fx F σ B1 H1 (hE.mono e1) O1 _ fun u B2 H2 e2 O2 p2 => ?_
  obtain ⟨_, _, o, h2, vs, rfl, h3⟩ := O2.ow _ _ hm.mem
  obtain ⟨z, q1, q2⟩ := h3.atI h
  exact ⟨l, vs, k, z, p1, p2, SqL.of h2, q1, hQ z B2 H2 (e1.trans e2) O2 q2⟩
end
section
variable {c : Cc} {X : Cx} {B0 F : Hp} {D : Ends} {Γ Γ1 : En} {ω ω1 ω2 ω3 ωo : Ws} {S T : Sh} {e o i : Expr} {rest sts : List Stmt} {pos p : Pos} {l : Addr}
theorem ds_setU {ss : List Sh} {kk : Int} {j : Nat} (he : DE c Γ ω e S ω1) (ho : DE c Γ ω1 o (At l) ω2) (hi : DE c Γ ω2 i (I kk) ω3) (hj : ixN ss.length kk = some j) (hs : Swp ω3 l (Cu ss) (Cu (ss.set j S)) ωo) (k : DS c X B0 F D Γ ωo rest)
    (hss : ∀ env, swapsWithSole [.Subscript o i p] e pos.line env = pure false := by intro _; rfl) (hw : ∀ env, swappedStores [.Subscript o i p] e env = pure none := by intro _; rfl)
    (ha : ∀ env v, assign (.Subscript o i p) env v = (do
      let ov ← holding [v] (eval o env)
      let iv ← holding [v, ov] (eval i env)
      standAt p
      holding [v, ov, iv] (setItem ov iv v)
      release [v, ov, iv] []) := by intro _ _; rfl) : DS c X B0 F D Γ ω (.Assign [.Subscript o i p] e pos :: rest) := by
  intro fx σ B H hB hE hO
  refine tS.cons (ps_asg pe_w (pg_sub pe_w pe_w set_list (ha _)) (hss _) (hw _) (by rfl)) ?_
  refine he X fx F σ B H hE hO _ fun v B1 H1 e1 O1 p1 => ?_
  refine ho X fx F σ B1 H1 (hE.mono e1) O1 _ fun v2 B2 H2 e2 O2 p2 => ?_
  refine hi X fx F σ B2 H2 (hE.mono (e1.trans e2)) O2 _ fun v3 B3 H3 e3 O3 p3 => ?_
  obtain ⟨_, _, o', h2, us, rfl, h3⟩ := O3.ow _ _ hs.mem
  refine ⟨l, us, kk, j, p2, p3, h2, by rw [h3.len]; exact hj, ?_⟩
  exact k fx σ B3 _ (((hB.trans e1).trans e2).trans e3) (hE.mono ((e1.trans e2).trans e3)) (O3.swp hs ⟨_, rfl, All2.set (R := fun v (s : Sh) => s.p B3 v) (S.mono (e2.trans e3) p1) j h3⟩)
/-- what is known of an owned cell is opened -/
theorem swp_own {F B H : Hp} {ω ω' : Ws} {l : Addr} {C C' : Co} (O : Own F ω B H) (s : Swp ω l C C' ω') (h : ∀ o, H l = some o → C'.p B o) : Own F ω' B H := by
  obtain ⟨_, _, o, h2, _⟩ := O.ow _ _ s.mem
  have e : upd H l o = H := by
    funext b
    by_cases z : b = l
    · subst z; rw [upd_same, h2]
    · rw [upd_ne z]
  have q := O.swp (o := o) s (h o h2)
  rw [e] at q
  exact q
theorem ds_open {β : Type} {P : β → Prop} {C : β → Co} {ω' : β → Ws} (hs : ∀ x, Swp ω l (Ce P C) (C x) (ω' x)) (k : ∀ x, P x → DS c X B0 F D Γ (ω' x) sts) (hn : Nonempty β) : DS c X B0 F D Γ ω sts := by
  intro fx σ B H hB hE hO
  obtain ⟨x0⟩ := hn
  obtain ⟨_, _, o, h2, x, hx, h3⟩ := hO.ow _ _ (hs x0).mem
  exact k x hx fx σ B H hB hE (swp_own hO (hs x) fun o' e => by rw [h2] at e; cases e; exact h3)
theorem ds_close {C C' : Co} {ω' : Ws} (hs : Swp ω l C C' ω') (hc : ∀ B o, C.p B o → C'.p B o) (k : DS c X B0 F D Γ ω' sts) : DS c X B0 F D Γ ω sts := by
  intro fx σ B H hB hE hO
  obtain ⟨_, _, o, h2, h3⟩ := hO.ow _ _ hs.mem
  exact k fx σ B H hB hE (swp_own hO hs fun o' e => by rw [h2] at e; cases e; exact hc _ _ h3)
end
/-- a shape that is known up to a word is opened -/
inductive UpE {α : Type} (P : α → Prop) (Rs : α → Sh) : En → Str → (α → En) → Prop
  | z {Γ x} : UpE P Rs ((x, some (Es P Rs)) :: Γ) x (fun y => (x, some (Rs y)) :: Γ)
  | s {Γ e x Γ'} : UpE P Rs Γ x Γ' → UpE P Rs (e :: Γ) x (fun y => e :: Γ' y)
theorem UpE.names {α : Type} {P : α → Prop} {Rs : α → Sh} {Γ : En} {x : Str} {Γ' : α → En} (h : UpE P Rs Γ x Γ') (y : α) : (Γ' y).map (·.1) = Γ.map (·.1) := by
  induction h with
  | z => rfl
  | s _ ih => simp [ih]
theorem UpE.env {α : Type} {P : α → Prop} {Rs : α → Sh} {x : Str} {B : Hp} : ∀ {Γ : En} {Γ' : α → En} {σ : L2.St}, UpE P Rs Γ x Γ' → EnvOk Γ σ B → ∃ y, P y ∧ EnvOk (Γ' y) σ B
  | _, _, [], .z, h => h.elim
  | _, _, _ :: _, .z, h => by
    obtain ⟨⟨v, h1, y, h2, h3⟩, h4⟩ := h
    exact ⟨y, h2, ⟨v, h1, h3⟩, h4⟩
  | (_, none) :: _, _, [], .s _, h => h.elim
  | (_, some _) :: _, _, [], .s _, h => h.elim
  | (_, none) :: _, _, _ :: σ, .s q, h => by
    obtain ⟨y, h1, h2⟩ := q.env (σ := σ) h
    exact ⟨y, h1, h2⟩
  | (_, some _) :: _, _, _ :: σ, .s q, h => by
    obtain ⟨y, h1, h2⟩ := q.env (σ := σ) h.2
    exact ⟨y, h1, h.1, h2⟩
theorem ds_openE {c : Cc} {X : Cx} {B0 F : Hp} {D : Ends} {Γ : En} {ω : Ws} {sts : List Stmt} {α : Type} {P : α → Prop} {Rs : α → Sh} {x : Str} {Γ' : α → En} (hu : UpE P Rs Γ x Γ') (k : ∀ y, P y → DS c X B0 F D (Γ' y) ω sts) : DS c X B0 F D Γ ω sts := by
  intro fx σ B H hB hE hO
  obtain ⟨y, hy, hE'⟩ := hu.env hE
  exact k y hy (fx.re (hu.names y)) σ B H hB hE' hO
end ZZ

set_option maxHeartbeats 2000000
/-! Z8: small forms for printed derivations. -/
namespace ZZ
open PySem PySem.Spec PyProof.Rows L2
open Evl (Ex)
section
variable {c : Cc} {X : Cx} {B0 F : Hp} {D : Ends} {Γ Γ0 Γ1 : En} {ω ω1 : Ws} {e it tg : Expr} {es : List Expr} {S T : Sh} {pos p pos' : Pos} {rest body : List Stmt} {α β : Type} {Rs : α → Sh} {Rb : β → Sh} {W : Nat → β → Prop} {xs : List α} {x : Str} {n : Nat}
theorem ds_ret0 (hR : Rt B0 F D.rt T []) (he : DE c Γ ω e S ω1) (q : S = T := by rfl) : DS c X B0 F D Γ ω (.Return (some e) pos :: rest) := ds_ret (ωo := []) (ω1 := ω1) hR he (q ▸ Sle.refl)
/-- a list display whose shapes are those of the list xs -/
theorem n_lstQ {ss : List Sh} (Rs : α → Sh) (xs : List α) (h : DA c Γ ω es ss ω1) (q : ss = xs.map Rs := by rfl) (hl : xs.length ≤ sizeLine := by show _ ≤ 16777216; simp [tab]) : DN c Γ ω (.List es pos) Rs xs ω1 := n_lst (q ▸ h) hl
theorem d_lstQ {ss : List Sh} (Rs : α → Sh) (xs : List α) (h : DA c Γ ω es ss ω1) (q : ss = xs.map Rs := by rfl) (hl : xs.length ≤ sizeLine := by show _ ≤ 16777216; simp [tab]) : DE c Γ ω (.List es pos) (L Rs xs) ω1 := d_lst (q ▸ h) hl
theorem ds_own0 (he : DN c Γ ω e Rs xs []) (hn : Put Γ x none Γ0) (k : ∀ l, ∃ Γ1, Put Γ x (some (At l)) Γ1 ∧ DS c X B0 F D Γ1 [(l, Cl Rs xs)] rest) (hl : Lo c x := by first | exact Or.inl rfl | exact Or.inr ⟨rfl, rfl⟩) (hs : ∀ env, swapsWithSole [.Name x p] e pos.line env = pure false := by intro _; rfl) : DS c X B0 F D Γ ω (.Assign [.Name x p] e pos :: rest) := ds_own he hn k hl hs
theorem ds_own1 {w : Addr × Co} (he : DN c Γ ω e Rs xs [w]) (hn : Put Γ x none Γ0) (k : ∀ l, ∃ Γ1, Put Γ x (some (At l)) Γ1 ∧ DS c X B0 F D Γ1 [w, (l, Cl Rs xs)] rest) (hl : Lo c x := by first | exact Or.inl rfl | exact Or.inr ⟨rfl, rfl⟩) (hs : ∀ env, swapsWithSole [.Name x p] e pos.line env = pure false := by intro _; rfl) : DS c X B0 F D Γ ω (.Assign [.Name x p] e pos :: rest) := ds_own he hn k hl hs
theorem ds_own2 {w u : Addr × Co} (he : DN c Γ ω e Rs xs [w, u]) (hn : Put Γ x none Γ0) (k : ∀ l, ∃ Γ1, Put Γ x (some (At l)) Γ1 ∧ DS c X B0 F D Γ1 [w, u, (l, Cl Rs xs)] rest) (hl : Lo c x := by first | exact Or.inl rfl | exact Or.inr ⟨rfl, rfl⟩) (hs : ∀ env, swapsWithSole [.Name x p] e pos.line env = pure false := by intro _; rfl) : DS c X B0 F D Γ ω (.Assign [.Name x p] e pos :: rest) := ds_own he hn k hl hs
theorem ds_appQ {apos cpos : Pos} {o : Expr} {l : Addr} {ω2 : Ws} {S : Sh} (Rs : α → Sh) (y : α) (ho : DE c Γ ω o (At l) ω) (he : DE c Γ ω e S ω1) (q : S = Rs y) (hm : Hold ω l (Cl Rs xs)) (hs : Swp ω1 l (Cl Rs xs) (Cl Rs (xs ++ [y])) ω2) (hl : xs.length < sizeLine) (k : DS c X B0 F D Γ ω2 rest)
    (hbase : ∀ env, attributeBase o "append" env (eval o env) = eval o env := by intro _; rfl)
    (hfew : ∀ env, ((backTo cpos (starEach [e] env)).all (fun x => !x.1) && (backToKw cpos (keywordEach [] env)).all (fun x => x.1.isSome) && decide ([e].length + ([] : List Keyword).length + (if ([] : List Keyword).isEmpty then 0 else 1) < 30)) = true := by intro _; rfl)
    (hline : (apos.endLine == cpos.line) = true := by rfl) (hst : ∀ env, starEach [e] env = (false, eval e env) :: starEach [] env := by intro _; rfl) (hsw : ∀ env, swapsWith (.Call (.Attribute o "append" apos) [e] [] cpos) none pos.line env = pure false := by intro _; rfl) :
    DS c X B0 F D Γ ω (.Expr (.Call (.Attribute o "append" apos) [e] [] cpos) pos :: rest) := ds_app ho (q ▸ he) hm hs hl k hbase hfew hline hst hsw
theorem ds_ifT {k : Bool} {t : Expr} {a b : List Stmt} (ht : DT c Γ ω t (· = k) ω1) (hk : k = true) (ha : DS c X B0 F { D with nx := tS X rest D } Γ ω1 a) : DS c X B0 F D Γ ω (.If t a b pos :: rest) := ds_if ht (fun _ => ha) (fun h => absurd (h.trans hk) (by decide))
theorem ds_ifF {k : Bool} {t : Expr} {a b : List Stmt} (ht : DT c Γ ω t (· = k) ω1) (hk : k = false) (ha : DS c X B0 F { D with nx := tS X rest D } Γ ω1 b) : DS c X B0 F D Γ ω (.If t a b pos :: rest) := ds_if ht (fun h => absurd (h.trans hk) (by decide)) (fun _ => ha)
/-- names and cells by the turn -/
def lp (f : Nat → En) (g : Nat → Ws) (i : Nat) : En → Ws → Prop := fun Γ ω => Γ = f i ∧ ω = g i
theorem ds_forF (f : Nat → En) (g : Nat → Ws) (hi : DI c Γ ω tg it n W Rb ω1) (hf : Fg Γ (f 0)) (h0 : ω1 = g 0)
    (hb : ∀ B1, Ex B0 B1 → ∀ i y, i < n → W i y → ∃ Γb ns, DG c tg ns (Rb y) (f i) Γb ∧ DS c X B1 F { D with nx := Jn (Γ.map (·.1)) B1 F (lp f g (i + 1)), ct := Jn (Γ.map (·.1)) B1 F (lp f g (i + 1)), bk := tS X rest D } Γb (g i) body)
    (hd : DS c X B0 F D (f n) (g n) rest) (hs : ∀ env x, foldedSetIterable it env x = pure x := by intro _ _; rfl) : DS c X B0 F D Γ ω (.For tg it body [] pos :: rest) := by
  refine ds_for (fun i => lp f g i) hi hf ⟨rfl, h0⟩ ?_ ?_ hs
  · rintro B1 hB1 i y _ _ hi hW ⟨rfl, rfl⟩ _
    exact hb B1 hB1 i y hi hW
  · rintro _ _ ⟨rfl, rfl⟩ _
    exact hd
theorem ds_turnJ {J : En → Ws → Prop} {N : List Str} (f : Fg Γ Γ1) (h : J Γ1 ω) (hN : N = Γ.map (·.1)) (hx : D.nx = Jn N B0 F J) : DS c X B0 F D Γ ω [] := ds_turn (nx := D.nx) f h hN hx
theorem ds_turnF {f : Nat → En} {g : Nat → Ws} {k : Nat} {N : List Str} (ff : Fg Γ (f k)) (hω : ω = g k) (hN : N = Γ.map (·.1)) (hx : D.nx = Jn N B0 F (lp f g k)) : DS c X B0 F D Γ ω [] := ds_turn (nx := D.nx) ff ⟨rfl, hω⟩ hN hx
theorem ds_contF {f : Nat → En} {g : Nat → Ws} {k : Nat} {N : List Str} (ff : Fg Γ (f k)) (hω : ω = g k) (hN : N = Γ.map (·.1)) (hx : D.ct = Jn N B0 F (lp f g k)) : DS c X B0 F D Γ ω (.Continue pos :: rest) :=
  ds_cont fun σ B H hB hE hO => by
    rw [hx]
    exact ⟨f k, g k, B, ⟨rfl, rfl⟩, by rw [ff.names, hN], hB, ff.env hE, hω ▸ hO⟩
theorem d_call0 {τ : Type} {t : Ct τ} {k : Nat} {ps : List Str} {ss : List Sh} (g : τ) (G : Gd c.M k x ps t) (hk : k ≤ c.k) (ha : DA c Γ ω (e :: es) ss ω1) (hs : ss = t.As g) (hp : t.pre g) (h0 : t.ω g = [] := by rfl) (h1 : t.ω' g = [] := by rfl)
    (hg : Glo c.sc x := by exact rfl) (hdb : (x == ("__debug__" : Str)) = false := by decide) (he : ∀ env, starEach (e :: es) env = (false, eval e env) :: starEach es env := by intro _; rfl) (hpl : ∀ env, (backTo pos (starEach es env)).any (·.1) = false := by intro _; rfl) :
    DE c Γ ω (.Call (.Name x p) (e :: es) [] pos) (t.S g) ω1 := by
  have h := d_call (p := p) (pos := pos) (rest := ω1) g G hk ha hs hp (by rw [h0]; rfl) hg hdb he hpl
  rw [h1] at h
  exact h
end
theorem tS.nx {X : Cx} {sts : List Stmt} {D : Ends} {nx : L2.St → Hp → Prop} {σ : L2.St} {H : Hp} (h : tS X sts { D with nx := nx } σ H) (k : ∀ σ H, nx σ H → D.nx σ H) : tS X sts D σ H := fun pins s I => thn (h pins s I) fun f s' q => by
  cases f with
  | next => obtain ⟨σ', H', I', q⟩ := q; exact ⟨σ', H', I', k _ _ q⟩
  | brk => exact q
  | cont => exact q
  | ret u => exact q
/-- an if whose branches meet again -/
theorem ds_ifJ {c : Cc} {X : Cx} {B0 F : Hp} {D : Ends} {Γ : En} {ω ω1 : Ws} {t : Expr} {a b rest : List Stmt} {pos : Pos} {R : Bool → Prop} (Γj : En) (ωj : Ws) (hN : Γj.map (·.1) = Γ.map (·.1)) (ht : DT c Γ ω t R ω1)
    (ha : R true → DS c X B0 F { D with nx := Jn (Γ.map (·.1)) B0 F (lp (fun _ => Γj) (fun _ => ωj) 0) } Γ ω1 a) (hb : R false → DS c X B0 F { D with nx := Jn (Γ.map (·.1)) B0 F (lp (fun _ => Γj) (fun _ => ωj) 0) } Γ ω1 b) (hk : DS c X B0 F D Γj ωj rest) : DS c X B0 F D Γ ω (.If t a b pos :: rest) := by
  have key : ∀ (sts : List Stmt), (DS c X B0 F { D with nx := Jn (Γ.map (·.1)) B0 F (lp (fun _ => Γj) (fun _ => ωj) 0) } Γ ω1 sts) → DS c X B0 F { D with nx := tS X rest D } Γ ω1 sts := fun sts h fx σ B H hB hE hO =>
    tS.nx (D := { D with nx := tS X rest D }) (h fx σ B H hB hE hO) fun σ' H' q => by
      obtain ⟨Γi, ωi, B', ⟨rfl, rfl⟩, q1, q2, q3, q4⟩ := q
      exact hk (fx.re q1) σ' B' H' q2 q3 q4
  exact ds_if ht (fun h => key _ (ha h)) (fun h => key _ (hb h))
theorem ds_meet {c : Cc} {X : Cx} {B0 F : Hp} {D : Ends} {Γ Γj : En} {ω ωj : Ws} {N : List Str} (ff : Fg Γ Γj) (hω : ω = ωj) (hN : N = Γ.map (·.1)) (hx : D.nx = Jn N B0 F (lp (fun _ => Γj) (fun _ => ωj) 0)) : DS c X B0 F D Γ ω [] := ds_turnJ ff ⟨rfl, hω⟩ hN hx
theorem DT.eqB {c : Cc} {Γ : En} {ω ω1 : Ws} {e : Expr} {k l : Bool} (h : DT c Γ ω e (· = k) ω1) (q : k = l) : DT c Γ ω e (· = l) ω1 := q ▸ h
theorem All2.comp {vs : List V} {B : Hp} : ∀ {ss ts : List Sh} {vs : List V}, All2 (fun v (s : Sh) => s.p B v) vs ss → All2 Sle ss ts → All2 (fun v (s : Sh) => s.p B v) vs ts
  | _, _, _, .nil, .nil => .nil
  | _, _, _, .cons h t, .cons q u => .cons (q _ _ h) (t.comp (vs := vs) u)
/-- a contract read as another one -/
theorem Gd.pull {τ τ' : Type} {t : Ct τ} {t' : Ct τ'} {M : Mo} {k : Nat} {x : Str} {ps : List Str} (G : Gd M k x ps t) (f : τ' → τ) (hAs : ∀ g, t'.pre g → All2 Sle (t'.As g) (t.As (f g))) (hp : ∀ g, t'.pre g → t.pre (f g)) (hω : ∀ g, t'.ω g = t.ω (f g)) (hω' : ∀ g, t'.ω' g = t.ω' (f g)) (hS : ∀ g, t'.pre g → Sle (t.S (f g)) (t'.S g)) : Gd M k x ps t' := by
  obtain ⟨fa, fd, h, q⟩ := G
  refine ⟨fa, fd, h.imp fun vs H Q E z => ?_, q⟩
  obtain ⟨g, F, B, z1, z2, z3, z4⟩ := z
  exact ⟨f g, F, B, hp g z1, z2.comp (vs := vs) (hAs g z1), (hω g) ▸ z3, fun v B' H' e O p => z4 v B' H' e ((hω' g).symm ▸ O) (hS g z1 _ _ p)⟩
theorem nonb_I {i : Int} : NonB (I i) false := fun B v h => by rw [show v = V.int i from h]; rfl
theorem nonb_No : NonB No true := fun B v h => by rw [show v = V.non from h]; rfl
theorem nonb_Bo {k : Bool} : NonB (Bo k) false := fun B v h => by rw [show v = V.bl k from h]; rfl
theorem nonb_S {s : Str} : NonB (Tx s) false := fun B v h => by rw [show v = V.str s from h]; rfl
/-- none or a number, none or a pair -/
def Op : Option Int → Sh
  | none => No
  | some x => I x
def P2 (x : Int × Int) : Sh := U [I x.1, I x.2]
def Opp : Option (Int × Int) → Sh
  | none => No
  | some x => P2 x
theorem sle_tup {α : Type} {R : α → Sh} {xs : List α} : Sle (U (xs.map R)) (Sq false R xs) := fun B v h => by
  obtain ⟨a, vs, rfl, h1, h2⟩ := h
  refine ⟨a, vs, rfl, h1, ?_⟩
  clear h1
  induction xs generalizing vs with
  | nil => cases h2; exact .nil
  | cons x xs ih => cases h2 with | cons p q => exact .cons p (ih _ q)
theorem sle_tup' {α : Type} {R : α → Sh} {xs : List α} : Sle (Sq false R xs) (U (xs.map R)) := fun B v h => by
  obtain ⟨a, vs, rfl, h1, h2⟩ := h
  refine ⟨a, vs, rfl, h1, ?_⟩
  clear h1
  induction xs generalizing vs with
  | nil => cases h2; exact .nil
  | cons x xs ih => cases h2 with | cons p q => exact .cons p (ih _ q)
/-- the first of 0, .., n - 1 that answers P -/
def fst (P : Nat → Bool) (n : Nat) : Option Nat := (List.range n).find? P
theorem fst_some {P : Nat → Bool} {n k : Nat} (h1 : ∀ j, j < k → P j = false) (h2 : P k = true) (h3 : k < n) : fst P n = some k := by
  unfold fst
  rw [List.find?_eq_some_iff_append]
  refine ⟨h2, List.range k, List.range' (k + 1) (n - (k + 1)), ?_, fun j hj => by rw [h1 j (List.mem_range.mp hj)]; rfl⟩
  rw [List.range_eq_range', List.range_eq_range', ← List.range'_succ]
  have q := @List.range'_append 0 k (n - (k + 1) + 1) 1
  rw [Nat.one_mul, Nat.zero_add] at q
  rw [q]
  congr 1
  omega
theorem fst_none {P : Nat → Bool} {n : Nat} (h : ∀ j, j < n → P j = false) : fst P n = none := by
  unfold fst
  rw [List.find?_eq_none]
  intro j hj
  rw [h j (List.mem_range.mp hj)]
  exact Bool.false_ne_true
theorem fst_at {P : Nat → Bool} {n k : Nat} (h : fst P n = some k) : P k = true ∧ k < n ∧ ∀ j, j < k → P j = false := by
  have q := List.find?_some h
  have q2 : k < n := List.mem_range.mp (List.mem_of_find?_eq_some h)
  refine ⟨q, q2, fun j hj => ?_⟩
  cases e : P j with
  | false => rfl
  | true =>
    exfalso
    -- the first among 0 .. j is at most j
    unfold fst at h
    obtain ⟨_, as, bs, hl, hno⟩ := List.find?_eq_some_iff_append.mp h
    have hlen : as.length = k := by
      have z : (List.range n)[as.length]? = some k := by rw [hl]; simp
      rw [List.getElem?_range (by have := congrArg List.length hl; simp at this; omega)] at z
      exact Option.some.inj z
    have z : (List.range n)[j]? = some j := List.getElem?_range (by omega)
    rw [hl, List.getElem?_append_left (by omega)] at z
    have := hno j (List.mem_of_getElem? z)
    rw [e] at this
    cases this
theorem fst_no {P : Nat → Bool} {n : Nat} (h : fst P n = none) {j : Nat} (hj : j < n) : P j = false := by
  unfold fst at h
  rw [List.find?_eq_none] at h
  have := h j (List.mem_range.mpr hj)
  revert this
  cases P j <;> simp
end ZZ

set_option maxHeartbeats 2000000
/-! Z9: the pot from which a law draws; answers that leave owned cells. -/
namespace ZZ
open PySem PySem.Spec PyProof.Rows L2
open Evl (Ex)
/-! ### the pot -/
def PotP : Int × Int → Prop := fun ab => 0 ≤ ab.1 ∧ ab.1 < 1000003
def potA (q : Addr) (ab : Int × Int) : Co := Cu [I ab.1, I ab.2, At q]
def potQ : Co := Ce (fun _ : List Int => True) (Cl I)
def potW (p q : Addr) : Ws := [(p, Ce PotP (potA q)), (q, potQ)]
theorem sle_es {α : Type} {P : α → Prop} {R : α → Sh} {y : α} (h : P y) : Sle (R y) (Es P R) := fun _ _ z => ⟨y, h, z⟩
theorem Own.close {F B H : Hp} {ω ω' : Ws} {l : Addr} {C C' : Co} (O : Own F ω B H) (hs : Swp ω l C C' ω') (hc : ∀ B o, C.p B o → C'.p B o) : Own F ω' B H := by
  obtain ⟨_, _, o, h2, h3⟩ := O.ow _ _ hs.mem
  exact swp_own O hs fun o' e => by rw [h2] at e; cases e; exact hc _ _ h3
section
variable {c : Cc} {X : Cx} {B0 F : Hp} {D : Ends} {Γ Γ0 : En} {ω ω1 ωo : Ws} {S T : Sh} {e : Expr} {es : List Expr} {rest : List Stmt} {pos p : Pos} {x : Str}
theorem ds_retO (hR : Rt B0 F D.rt T ωo) (he : DE c Γ ω e S ω1) (w : Sle S T) (hO : ∀ B H, Own F ω1 B H → Own F ωo B H) : DS c X B0 F D Γ ω (.Return (some e) pos :: rest) := by
  intro fx σ B H hB hE hO'
  refine tS.cons (ps_ret pe_w) ?_
  refine he X fx F σ B H hE hO' _ fun v B1 H1 e1 O1 p1 => ?_
  exact hR v B1 H1 (hB.trans e1) (hO _ _ O1) (w _ _ p1)
theorem ds_retE {α : Type} {P : α → Prop} {Rs : α → Sh} (hR : Rt B0 F D.rt (Es P Rs) ωo) {y : α} (he : DE c Γ ω e (Rs y) ω1) (hy : P y) (hO : ∀ B H, Own F ω1 B H → Own F ωo B H) : DS c X B0 F D Γ ω (.Return (some e) pos :: rest) :=
  ds_retO hR he (fun B v h => ⟨y, hy, h⟩) hO
/-! ### a new pot -/
def RtP (B0 F : Hp) (rt : VK) : Prop := ∀ p q B H, Ex B0 B → Own F (potW p q) B H → rt (.ref p) H
def DAN {α : Type} (c : Cc) (Γ : En) (ω : Ws) (es : List Expr) (ss : Addr → List Sh) (R : α → Sh) (xs : List α) (ω' : Ws) : Prop :=
  ∀ X, Fits c (Γ.map (·.1)) X → ∀ F σ B H, EnvOk Γ σ B → Own F ω B H → ∀ Q : List V → Hp → Prop, (∀ l vs B' H', Ex B B' → Own F (ω' ++ [(l, Cl R xs)]) B' H' → All2 (fun v (s : Sh) => s.p B' v) vs (ss l) → Q vs H') → tA X es σ H Q
theorem an_last {α : Type} {R : α → Sh} {xs : List α} (h : DN c Γ ω e R xs ω1) (hs : ∀ env, starEach [e] env = (false, eval e env) :: starEach [] env := by intro _; rfl) : DAN c Γ ω [e] (fun l => [At l]) R xs ω1 := fun X fx F σ B H hE hO Q hQ => by
  refine tA.of (pa_cons pe_w pa_w (hs _)) ?_
  refine h X fx F σ B H hE hO _ fun l B1 H1 e1 O1 => ?_
  exact tA.of pa_nil (hQ l _ B1 H1 e1 O1 (.cons rfl .nil))
theorem an_cons {α : Type} {R : α → Sh} {xs : List α} {ss : Addr → List Sh} {ω2 : Ws} (ha : DE c Γ ω e S ω1) (hr : DAN c Γ ω1 es ss R xs ω2) (hs : ∀ env, starEach (e :: es) env = (false, eval e env) :: starEach es env := by intro _; rfl) : DAN c Γ ω (e :: es) (fun l => S :: ss l) R xs ω2 := fun X fx F σ B H hE hO Q hQ => by
  refine tA.of (pa_cons pe_w pa_w (hs _)) ?_
  refine ha X fx F σ B H hE hO _ fun v B1 H1 e1 O1 p1 => ?_
  exact hr X fx F σ B1 H1 (hE.mono e1) O1 _ fun l vs B2 H2 e2 O2 p2 => hQ l _ B2 H2 (e1.trans e2) O2 (.cons (S.mono e2 p1) p2)
theorem ds_retP {xs : List Int} {a b : Int} (hR : RtP B0 F D.rt) (h : DAN c Γ ω es (fun l => [I a, I b, At l]) I xs []) (hab : PotP (a, b)) : DS c X B0 F D Γ ω (.Return (some (.List es p)) pos :: rest) := by
  intro fx σ B H hB hE hO
  refine tS.cons (ps_ret pe_w) ?_
  refine tW.of (pe_lst pa_w) ?_
  refine h X fx F σ B H hE hO _ fun l vs B1 H1 e1 O1 p1 => ⟨by rw [p1.len]; show _ ≤ 16777216; simp, fun r hr => ?_⟩
  have O2 : Own F ((r, Cu [I a, I b, At l]) :: [(l, Cl I xs)]) B1 (upd H1 r (.lst vs)) := O1.cons hr ⟨vs, rfl, p1⟩
  have O3 : Own F [(r, Ce PotP (potA l)), (l, Cl I xs)] B1 (upd H1 r (.lst vs)) := O2.close .z fun B o z => ⟨(a, b), hab, z⟩
  exact hR r l B1 _ (hB.trans e1) (O3.close (.s .z) fun B o z => ⟨xs, trivial, z⟩)
/-- the numbers that the law is handed -/
def Sk (K : PySem.W.Frag) (ns : List Int) : Sh := ⟨fun B v => ∃ a, v = .ref a ∧ SqL K B a (ns.map V.int), fun e h => let ⟨a, h1, h2⟩ := h; ⟨a, h1, Evl.ex_l e h2⟩⟩
theorem all_ints {B : Hp} : ∀ ns : List Int, All2 (fun v x => (I x).p B v) (ns.map V.int) ns
  | [] => .nil
  | _ :: ns => .cons rfl (all_ints ns)
theorem n_slK {ns : List Int} {a : Expr} {ω2 ω3 : Ws} {lo hi : Option Expr} {i j : Option Int} {p2 : Pos} (ha : DE c Γ ω a (Sk c.M.K ns) ω1) (hl : DO c Γ ω1 lo i ω2) (hh : DO c Γ ω2 hi j ω3) : DN c Γ ω (.Subscript a (.Slice lo hi none p2) pos) I (cut ns i j) ω3 := by
  intro X fx F σ B H hE hO Q hQ
  refine tW.of (pe_slice sl_list pe_w po_w po_w) ?_
  refine ha X fx F σ B H hE hO _ fun v B1 H1 e1 O1 p1 => ?_
  refine hl.run fx (hE.mono e1) O1 fun B2 H2 e2 O2 => ?_
  refine hh.run fx (hE.mono (e1.trans e2)) O2 fun B3 H3 e3 O3 => ?_
  obtain ⟨a', rfl, h2⟩ := p1
  have h3 : All2 (fun v x => (I x).p B3 v) (ns.map V.int) ns := all_ints ns
  exact ⟨a', _, rfl, by rw [fx.K]; exact Evl.ex_l ((e2.trans e3).trans O3.ex) h2, fun q hq => hQ q _ _ ((e1.trans e2).trans e3) (O3.add hq (C := Cl I (cut ns i j)) ⟨_, rfl, h3.cut i j⟩)⟩
theorem d_slK {ns : List Int} {a : Expr} {ω2 ω3 : Ws} {lo hi : Option Expr} {i j : Option Int} {p2 : Pos} (ha : DE c Γ ω a (Sk c.M.K ns) ω1) (hl : DO c Γ ω1 lo i ω2) (hh : DO c Γ ω2 hi j ω3) : DE c Γ ω (.Subscript a (.Slice lo hi none p2) pos) (L I (cut ns i j)) ω3 := (n_slK ha hl hh).frz
def spPot (K : PySem.W.Frag) (n : Nat) : Sp := fun vs H Q _ => ∃ (F B : Hp) (ns : List Int), ns.length ≤ n ∧ All2 (fun v (s : Sh) => s.p B v) vs [Sk K ns] ∧ Own F [] B H ∧ ∀ p q B' H', Ex B B' → Own F (potW p q) B' H' → Q (.ref p) H'
def Gp (M : Mo) (k : Nat) (x : Str) (n : Nat) (ps : List Str) : Prop :=
  ∃ (f : Addr) (fd : FuncData), FnOk M.P M.w M.K M.mg M.base CX0 k f fd ps (spPot M.K n) ∧ M.mg x = some (.ref f) ∧ PySem.W.keepIn M.K (.ref f) = true ∧ Binds M.K fd ps []
theorem Pr.gp {M : Mo} {k n : Nat} {x : Str} {st : Stmt} {N : List Str} {s : Str} (P : Pr M x st [s]) (S : FnScope N [s] (defScope st))
    (hbody : ∀ (X : Cx) (B0 F0 : Hp) (D : Ends) (ns : List Int), ns.length ≤ n → RtP B0 F0 D.rt → DS ⟨M, defScope st, k, true⟩ X B0 F0 D (mkΓ N [Sk M.K ns]) [] (defBody st)) : Gp M (k + 1) x n [s] := by
  obtain ⟨f, fd, F, hm, hb⟩ := P
  refine ⟨f, fd, F.ok S (fun vs H Q E h => ?_) (fun cdv A outer s H vs Q E hr h => ?_), hm, F.kp, hb⟩
  · obtain ⟨_, _, ns, _, h2, _⟩ := h
    rw [h2.len]; rfl
  · obtain ⟨F0, B, ns, hn, hv, hO, hQ⟩ := h
    have hl : [s].length ≤ N.length := by have := congrArg List.length S.pre; rw [List.length_take] at this; simp at this ⊢; omega
    refine ⟨_, pss_w, hbody _ B F0 _ ns hn (fun p q B' H' e1 O1 => hQ p q B' H' e1 O1) ?_ _ B H (Ex.refl B) (mk_env N _ vs hv hl) hO⟩
    rw [mk_names]
    exact ⟨rfl, rfl, rfl, rfl, rfl, rfl, rfl, S.nd, rfl, hr, fun _ _ _ => rfl, PassesOwn.never⟩
theorem ds_pot {k n : Nat} {y : Str} {a : Expr} {s : Str} {ns : List Int} {px pf : Pos} (G : Gp c.M k y n [s]) (hk : k ≤ c.k) (ha : DE c Γ [] a (Sk c.M.K ns) []) (hn : ns.length ≤ n) (hp : Put Γ x none Γ0) (K : ∀ p q, ∃ Γ1, Put Γ x (some (At p)) Γ1 ∧ DS c X B0 F D Γ1 (potW p q) rest)
    (hl : Lo c x := by first | exact Or.inl rfl | exact Or.inr ⟨rfl, rfl⟩) (hg : Glo c.sc y := by exact rfl) (hdb : (y == ("__debug__" : Str)) = false := by decide) (he : ∀ env, starEach [a] env = (false, eval a env) :: starEach [] env := by intro _; rfl) (hpl : ∀ env, (backTo p (starEach ([] : List Expr) env)).any (·.1) = false := by intro _; rfl)
    (hs : ∀ env, swapsWithSole [.Name x px] (.Call (.Name y pf) [a] [] p) pos.line env = pure false := by intro _; rfl) (hw : ∀ env, swappedStores [.Name x px] (.Call (.Name y pf) [a] [] p) env = pure none := by intro _; rfl) : DS c X B0 F D Γ [] (.Assign [.Name x px] (.Call (.Name y pf) [a] [] p) pos :: rest) := by
  intro fx σ B H hB hE hO
  obtain ⟨f, fd, hF, hm, hkp, hb⟩ := G
  obtain ⟨j, hj⟩ := hp.ix
  refine tS.cons (ps_asg pe_w (pg_name (i := j) (by rw [fx.ns]; exact fx.nd) (by rw [fx.ns]; exact hj) (fx.lo hl).1 (fx.lo hl).2) (hs _) (hw _) (by rfl)) ?_
  have hF' : FnOk X.prog X.w X.K X.mg X.base CX0 k f fd [s] (spPot c.M.K n) := by rw [fx.prog, fx.w, fx.K, fx.mg, fx.base]; exact hF
  refine tW.of (pe_call (ds := []) (dvs := []) (E := E0) hF' (fx.room.mono hk) (gl_of fx hg) (by rw [fx.mg]; exact hm) (by rw [fx.K]; exact hkp) (by rw [fx.K]; exact hb) .nil pass0 pa_w hdb (he _) (hpl _)) ?_
  refine a_cons ha a_nil he X fx F σ B H hE hO _ fun vs B1 H1 e1 O1 p1 => ?_
  refine ⟨F, B1, ns, hn, by rw [List.append_nil]; exact p1, O1, fun p' q' B2 H2 e2 O2 => ?_⟩
  obtain ⟨Γ1, hp', K⟩ := K p' q'
  obtain ⟨j', h1, h2⟩ := hp'.set
  have e : j' = j := nodup_ix fx.nd h1 hj
  subst e
  exact K (fx.re hp'.names) _ B2 H2 (hB.trans (e1.trans e2)) (h2 _ _ _ (hE.mono (e1.trans e2)) rfl) O2
end
/-! ### numbers known up to a word -/
section
variable {c : Cc} {Γ : En} {ω ω1 ω2 : Ws} {a b : Expr} {P Q' : Int → Prop} {pos p : Pos} {r : L2.R2}
theorem rr_EE {f : Int → Int → Int} (h : ∀ i j, P i → Q' j → RR r (I i) (I j) (I (f i j))) : RR r (Ei P) (Ei Q') (Ei fun z => ∃ i j, P i ∧ Q' j ∧ z = f i j) := fun F ω B H v u h1 h2 O Q q => by
  obtain ⟨i, hi, e1⟩ := h1
  obtain ⟨j, hj, e2⟩ := h2
  exact h i j hi hj F ω B H v u e1 e2 O Q fun z B' H' e O' p => q z B' H' e O' ⟨_, ⟨i, j, hi, hj, rfl⟩, p⟩
theorem rr_ET {f : Int → Int → Bool} (h : ∀ i j, P i → Q' j → RR r (I i) (I j) (Bo (f i j))) : RR r (Ei P) (Ei Q') (Es (fun z => ∃ i j, P i ∧ Q' j ∧ z = f i j) Bo) := fun F ω B H v u h1 h2 O Q q => by
  obtain ⟨i, hi, e1⟩ := h1
  obtain ⟨j, hj, e2⟩ := h2
  exact h i j hi hj F ω B H v u e1 e2 O Q fun z B' H' e O' p => q z B' H' e O' ⟨_, ⟨i, j, hi, hj, rfl⟩, p⟩
theorem e_add (ha : DE c Γ ω a (Ei P) ω1) (hb : DE c Γ ω1 b (Ei Q') ω2) : DE c Γ ω (.BinOp a .Add b pos) (Ei fun z => ∃ i j, P i ∧ Q' j ∧ z = i + j) ω2 := d_bin (fun _ => op_add) ha hb (rr_EE fun _ _ _ _ => rr_I0)
theorem e_sub (ha : DE c Γ ω a (Ei P) ω1) (hb : DE c Γ ω1 b (Ei Q') ω2) : DE c Γ ω (.BinOp a .Sub b pos) (Ei fun z => ∃ i j, P i ∧ Q' j ∧ z = i - j) ω2 := d_bin (fun _ => op_sub) ha hb (rr_EE fun _ _ _ _ => rr_I0)
theorem e_mul (ha : DE c Γ ω a (Ei P) ω1) (hb : DE c Γ ω1 b (Ei Q') ω2) (hc : ∀ i j, P i → Q' j → CMul i j) : DE c Γ ω (.BinOp a .Mult b pos) (Ei fun z => ∃ i j, P i ∧ Q' j ∧ z = i * j) ω2 := d_bin (fun _ => op_mul) ha hb (rr_EE fun i j h1 h2 => rr_I (hc i j h1 h2))
theorem e_div (ha : DE c Γ ω a (Ei P) ω1) (hb : DE c Γ ω1 b (Ei Q') ω2) (hc : ∀ i j, P i → Q' j → CDiv i j) : DE c Γ ω (.BinOp a .FloorDiv b pos) (Ei fun z => ∃ i j, P i ∧ Q' j ∧ z = i / j) ω2 := d_bin (fun _ => op_fdiv) ha hb (rr_EE fun i j h1 h2 => rr_I (hc i j h1 h2))
theorem e_mod (ha : DE c Γ ω a (Ei P) ω1) (hb : DE c Γ ω1 b (Ei Q') ω2) (hc : ∀ i j, P i → Q' j → 0 < j) : DE c Γ ω (.BinOp a .Mod b pos) (Ei fun z => ∃ i j, P i ∧ Q' j ∧ z = i % j) ω2 := d_bin (fun _ => op_mod) ha hb (rr_EE fun i j h1 h2 => rr_I (hc i j h1 h2))
theorem e_lt (ha : DE c Γ ω a (Ei P) ω1) (hb : DE c Γ ω1 b (Ei Q') ω2) : DT c Γ ω (.Compare a [.Lt] [b] pos) (fun z => ∃ i j, P i ∧ Q' j ∧ z = decide (i < j)) ω2 := t_cmp (fun _ _ => op_lt) ha hb (rr_ET fun _ _ _ _ => rr_I0) (nomark _)
theorem e_le (ha : DE c Γ ω a (Ei P) ω1) (hb : DE c Γ ω1 b (Ei Q') ω2) : DT c Γ ω (.Compare a [.LtE] [b] pos) (fun z => ∃ i j, P i ∧ Q' j ∧ z = decide (i ≤ j)) ω2 := t_cmp (fun _ _ => op_le) ha hb (rr_ET fun _ _ _ _ => rr_I0) (nomark _)
theorem e_gt (ha : DE c Γ ω a (Ei P) ω1) (hb : DE c Γ ω1 b (Ei Q') ω2) : DT c Γ ω (.Compare a [.Gt] [b] pos) (fun z => ∃ i j, P i ∧ Q' j ∧ z = decide (j < i)) ω2 := t_cmp (fun _ _ => op_gt) ha hb (rr_ET fun _ _ _ _ => rr_I0) (nomark _)
theorem e_ge (ha : DE c Γ ω a (Ei P) ω1) (hb : DE c Γ ω1 b (Ei Q') ω2) : DT c Γ ω (.Compare a [.GtE] [b] pos) (fun z => ∃ i j, P i ∧ Q' j ∧ z = decide (j ≤ i)) ω2 := t_cmp (fun _ _ => op_ge) ha hb (rr_ET fun _ _ _ _ => rr_I0) (nomark _)
theorem e_eqI (ha : DE c Γ ω a (Ei P) ω1) (hb : DE c Γ ω1 b (Ei Q') ω2) : DT c Γ ω (.Compare a [.Eq] [b] pos) (fun z => ∃ i j, P i ∧ Q' j ∧ z = decide (i = j)) ω2 := t_cmp (fun _ _ => op_eq) ha hb (rr_ET fun _ _ _ _ => by rw [← vint]; exact rr_eq rfl) (nomark _)
theorem e_neI (ha : DE c Γ ω a (Ei P) ω1) (hb : DE c Γ ω1 b (Ei Q') ω2) : DT c Γ ω (.Compare a [.NotEq] [b] pos) (fun z => ∃ i j, P i ∧ Q' j ∧ z = !decide (i = j)) ω2 := t_cmp (fun _ _ => op_ne) ha hb (rr_ET fun _ _ _ _ => by rw [← vint]; exact rr_ne rfl) (nomark _)
theorem e_min2 (ha : DE c Γ ω a (Ei P) ω1) (hb : DE c Γ ω1 b (Ei Q') ω2) (hm : c.M.mg "min" = none) (hg : Glo c.sc "min" := by exact rfl) (he : ∀ env, starEach [a, b] env = (false, eval a env) :: starEach [b] env := by intro _; rfl)
    (he2 : ∀ env, starEach [b] env = (false, eval b env) :: starEach [] env := by intro _; rfl) (hpl : ∀ env, (backTo pos (starEach [b] env)).any (·.1) = false := by intro _; rfl) : DE c Γ ω (.Call (.Name "min" p) [a, b] [] pos) (Ei fun z => ∃ i j, P i ∧ Q' j ∧ z = min i j) ω2 :=
  d_callB (fun _ fx => call_min2 fx.calm) hg hm PyProof.Rows.boot_min (a_cons ha (a_cons hb a_nil he2) he) (rc2 fun F ω B H v u h1 h2 O Q q => by
    obtain ⟨i, hi, h1⟩ := h1
    obtain ⟨j, hj, h2⟩ := h2
    have h1 : v = .int i := h1
    have h2 : u = .int j := h2
    subst h1 h2
    refine ⟨i, j, rfl, q _ B H (Ex.refl B) O ⟨_, ⟨i, j, hi, hj, rfl⟩, ?_⟩⟩
    show V.int _ = V.int _
    congr 1
    split <;> omega) (he := he) (hpl := hpl)
theorem e_max2 (ha : DE c Γ ω a (Ei P) ω1) (hb : DE c Γ ω1 b (Ei Q') ω2) (hm : c.M.mg "max" = none) (hg : Glo c.sc "max" := by exact rfl) (he : ∀ env, starEach [a, b] env = (false, eval a env) :: starEach [b] env := by intro _; rfl)
    (he2 : ∀ env, starEach [b] env = (false, eval b env) :: starEach [] env := by intro _; rfl) (hpl : ∀ env, (backTo pos (starEach [b] env)).any (·.1) = false := by intro _; rfl) : DE c Γ ω (.Call (.Name "max" p) [a, b] [] pos) (Ei fun z => ∃ i j, P i ∧ Q' j ∧ z = max i j) ω2 :=
  d_callB (fun _ fx => call_max2 fx.calm) hg hm PyProof.Rows.boot_max (a_cons ha (a_cons hb a_nil he2) he) (rc2 fun F ω B H v u h1 h2 O Q q => by
    obtain ⟨i, hi, h1⟩ := h1
    obtain ⟨j, hj, h2⟩ := h2
    have h1 : v = .int i := h1
    have h2 : u = .int j := h2
    subst h1 h2
    refine ⟨i, j, rfl, q _ B H (Ex.refl B) O ⟨_, ⟨i, j, hi, hj, rfl⟩, ?_⟩⟩
    show V.int _ = V.int _
    congr 1
    split <;> omega) (he := he) (hpl := hpl)
theorem e_ix {α : Type} {bb : Bool} {Rs : α → Sh} {xs : List α} (ha : DE c Γ ω a (Sq bb Rs xs) ω1) (hb : DE c Γ ω1 b (Ei P) ω2) (h : ∀ k, P k → 0 ≤ k ∧ k < xs.length) (hs : PlainIx b := by exact fun _ _ => rfl) : DE c Γ ω (.Subscript a b pos) (Es (fun y => ∃ k, P k ∧ L2.atI xs k = some y) Rs) ω2 := by
  intro X fx F σ B H hE hO Q hQ
  have at' : ∀ k, P k → ∃ y, L2.atI xs k = some y := fun k hk => by
    obtain ⟨h1, h2⟩ := h k hk
    obtain ⟨j, rfl⟩ := Int.eq_ofNat_of_zero_le h1
    exact ⟨_, atI_of rfl (List.getElem?_eq_getElem (by omega))⟩
  have go : ∀ (r : L2.R2), IxR X r → (∀ v u B2 H2, (Sq bb Rs xs).p B2 v → (Ei P).p B2 u → Ex B2 H2 → (∀ z, (Es (fun y => ∃ k, P k ∧ L2.atI xs k = some y) Rs).p B2 z → Q z H2) → r v u H2 Q) → tW X (.Subscript a b pos) σ H Q := fun r hr hh => by
    refine tW.of (pe_ix hr pe_w pe_w hs) ?_
    refine ha X fx F σ B H hE hO _ fun v B1 H1 e1 O1 p1 => ?_
    refine hb X fx F σ B1 H1 (hE.mono e1) O1 _ fun u B2 H2 e2 O2 p2 => ?_
    exact hh v u B2 H2 ((Sq bb Rs xs).mono e2 p1) p2 O2.ex fun z q => hQ z B2 H2 (e1.trans e2) O2 q
  cases bb with
  | true =>
    refine go _ ix_list fun v u B2 H2 p1 p2 e q => ?_
    obtain ⟨k, hk, p2⟩ := p2
    obtain ⟨y, hy⟩ := at' k hk
    obtain ⟨a', vs, rfl, h2, h3⟩ := sq_get p1 e
    obtain ⟨z, e1, e2⟩ := h3.atI hy
    exact ⟨a', vs, k, z, rfl, p2, SqL.of h2, e1, q z ⟨y, ⟨k, hk, hy⟩, e2⟩⟩
  | false =>
    refine go _ ix_tup fun v u B2 H2 p1 p2 e q => ?_
    obtain ⟨k, hk, p2⟩ := p2
    obtain ⟨y, hy⟩ := at' k hk
    obtain ⟨a', vs, rfl, h2, h3⟩ := sq_get p1 e
    obtain ⟨z, e1, e2⟩ := h3.atI hy
    exact ⟨a', vs, k, z, rfl, p2, SqT.of h2, e1, q z ⟨y, ⟨k, hk, hy⟩, e2⟩⟩
end
/-! ### what is drawn -/
def dr : Ct ((Addr × Addr) × Int) := { As := fun g => [At g.1.1, I g.2], pre := fun g => 0 < g.2 ∧ g.2 < 1073741824, S := fun g => Ei (fun r => 0 ≤ r ∧ r < g.2), ω := fun g => potW g.1.1 g.1.2, ω' := fun g => potW g.1.1 g.1.2 }
abbrev pw (p q : Addr) : Addr × Co := (p, Ce PotP (potA q))
abbrev qw (q : Addr) : Addr × Co := (q, potQ)
theorem d_draw {c : Cc} {Γ : En} {rest : Ws} {a b : Expr} {p q : Addr} {m : Int} {k : Nat} {x : Str} {pos px : Pos} (G : Gd c.M k x ["pot", "many"] dr) (hk : k ≤ c.k) (ha : DE c Γ (pw p q :: qw q :: rest) a (At p) (pw p q :: qw q :: rest)) (hb : DE c Γ (pw p q :: qw q :: rest) b (I m) (pw p q :: qw q :: rest)) (h : 0 < m ∧ m < 1073741824)
    (hg : Glo c.sc x := by exact rfl) (hdb : (x == ("__debug__" : Str)) = false := by decide) (he : ∀ env, starEach [a, b] env = (false, eval a env) :: starEach [b] env := by intro _; rfl) (he2 : ∀ env, starEach [b] env = (false, eval b env) :: starEach [] env := by intro _; rfl) (hpl : ∀ env, (backTo pos (starEach [b] env)).any (·.1) = false := by intro _; rfl) :
    DE c Γ (pw p q :: qw q :: rest) (.Call (.Name x px) [a, b] [] pos) (Ei fun r => 0 ≤ r ∧ r < m) (pw p q :: qw q :: rest) :=
  d_call (t := dr) (rest := rest) ((p, q), m) G hk (a_cons ha (a_cons hb a_nil he2) he) rfl h rfl hg hdb he hpl
/-- the number of things to draw from is itself known up to a word -/
theorem d_drawE {c : Cc} {Γ : En} {rest : Ws} {a b : Expr} {p q : Addr} {P : Int → Prop} {k : Nat} {x : Str} {pos px : Pos} (G : Gd c.M k x ["pot", "many"] dr) (hk : k ≤ c.k) (ha : DE c Γ (pw p q :: qw q :: rest) a (At p) (pw p q :: qw q :: rest)) (hb : DE c Γ (pw p q :: qw q :: rest) b (Ei P) (pw p q :: qw q :: rest)) (h : ∀ m, P m → 0 < m ∧ m < 1073741824)
    (hg : Glo c.sc x := by exact rfl) (hdb : (x == ("__debug__" : Str)) = false := by decide) (he : ∀ env, starEach [a, b] env = (false, eval a env) :: starEach [b] env := by intro _; rfl) (he2 : ∀ env, starEach [b] env = (false, eval b env) :: starEach [] env := by intro _; rfl) (hpl : ∀ env, (backTo pos (starEach [b] env)).any (·.1) = false := by intro _; rfl) :
    DE c Γ (pw p q :: qw q :: rest) (.Call (.Name x px) [a, b] [] pos) (Ei fun r => ∃ m, P m ∧ 0 ≤ r ∧ r < m) (pw p q :: qw q :: rest) := by
  obtain ⟨f, fd, hF, hm, hkp, hb'⟩ := G
  intro X fx F σ B H hE hO Q hQ
  have hF' : FnOk X.prog X.w X.K X.mg X.base CX0 k f fd ["pot", "many"] dr.sp := by rw [fx.prog, fx.w, fx.K, fx.mg, fx.base]; exact hF
  refine tW.of (pe_call (ds := []) (dvs := []) (E := E0) hF' (fx.room.mono hk) (gl_of fx hg) (by rw [fx.mg]; exact hm) (by rw [fx.K]; exact hkp) (by rw [fx.K]; exact hb') .nil pass0 pa_w hdb (he _) (hpl _)) ?_
  refine a_cons ha (a_cons hb a_nil he2) he X fx F σ B H hE hO _ fun vs B1 H1 e1 O1 p1 => ?_
  obtain ⟨v, u, rfl, h1, m, hm', h2⟩ := all2 p1
  refine ⟨((p, q), m), frame F rest H1, B1, h m hm', .cons h1 (.cons h2 .nil), (show Own F (potW p q ++ rest) B1 H1 from O1).focus, fun v B' H' e2 O2 p2 => ?_⟩
  obtain ⟨y, hy, p2⟩ := p2
  exact hQ v B' H' (e1.trans e2) ((show Own F (potW p q ++ rest) B1 H1 from O1).unfocus e2 O2 rfl) ⟨y, ⟨m, hm', hy⟩, p2⟩
theorem tab_last {α : Type} {f : Nat → α} {n : Nat} : L2.atI (tab f (n + 1)) (-1) = some (f n) := by rw [tab_succ]; exact atI_last _ _
theorem ds_setiE {c : Cc} {X : Cx} {B0 F : Hp} {D : Ends} {Γ : En} {ω ω1 ω2 ω3 : Ws} {e o i : Expr} {rest : List Stmt} {pos p : Pos} {l : Addr} {α : Type} {P : α → Prop} {Rs : α → Sh} {xs : List α} {kk : Int} {j : Nat} (he : DE c Γ ω e (Es P Rs) ω1) (ho : DE c Γ ω1 o (At l) ω2) (hi : DE c Γ ω2 i (I kk) ω3) (hj : ixN xs.length kk = some j) (k : ∀ y, P y → ∃ ωo, Swp ω3 l (Cl Rs xs) (Cl Rs (xs.set j y)) ωo ∧ DS c X B0 F D Γ ωo rest)
    (hss : ∀ env, swapsWithSole [.Subscript o i p] e pos.line env = pure false := by intro _; rfl) (hw : ∀ env, swappedStores [.Subscript o i p] e env = pure none := by intro _; rfl)
    (ha : ∀ env v, assign (.Subscript o i p) env v = (do
      let ov ← holding [v] (eval o env)
      let iv ← holding [v, ov] (eval i env)
      standAt p
      holding [v, ov, iv] (setItem ov iv v)
      release [v, ov, iv] []) := by intro _ _; rfl) : DS c X B0 F D Γ ω (.Assign [.Subscript o i p] e pos :: rest) := by
  intro fx σ B H hB hE hO
  refine tS.cons (ps_asg pe_w (pg_sub pe_w pe_w set_list (ha _)) (hss _) (hw _) (by rfl)) ?_
  refine he X fx F σ B H hE hO _ fun v B1 H1 e1 O1 p1 => ?_
  refine ho X fx F σ B1 H1 (hE.mono e1) O1 _ fun v2 B2 H2 e2 O2 p2 => ?_
  refine hi X fx F σ B2 H2 (hE.mono (e1.trans e2)) O2 _ fun v3 B3 H3 e3 O3 p3 => ?_
  obtain ⟨y, hy, p1⟩ := p1
  obtain ⟨ωo, hs, k⟩ := k y hy
  obtain ⟨_, _, o', h2, us, rfl, h3⟩ := O3.ow _ _ hs.mem
  refine ⟨l, us, kk, j, p2, p3, h2, by rw [h3.len]; exact hj, ?_⟩
  exact k fx σ B3 _ (((hB.trans e1).trans e2).trans e3) (hE.mono ((e1.trans e2).trans e3)) (O3.swp hs ⟨_, rfl, All2.set (R := fun v x => (Rs x).p B3 v) ((Rs y).mono (e2.trans e3) p1) j h3⟩)
end ZZ

set_option maxHeartbeats 2000000
/-! Z10: a lent list; calls that draw; lists of things known up to a word. -/
namespace ZZ
open PySem PySem.Spec PyProof.Rows L2
open Evl (Ex)
def Flat (C : Co) : Prop := ∀ B B' o, C.p B o → C.p B' o
theorem flat_potQ : Flat potQ := fun B B' o h => by
  obtain ⟨ns, h1, vs, rfl, h2⟩ := h
  exact ⟨ns, h1, vs, rfl, h2.mp fun _ _ q => q⟩
theorem flat_potA {q : Addr} : Flat (Ce PotP (potA q)) := fun B B' o h => by
  obtain ⟨ab, h1, vs, rfl, h2⟩ := h
  refine ⟨ab, h1, vs, rfl, ?_⟩
  cases h2 with | cons a h2 => cases h2 with | cons b h2 => cases h2 with | cons c h2 => cases h2; exact .cons a (.cons b (.cons c .nil))
theorem flat_pot {p q : Addr} : ∀ e ∈ ([pw p q, qw q] : Ws), Flat e.2 := fun e he => by
  rcases List.mem_cons.mp he with rfl | he
  · exact flat_potA
  · rw [List.mem_singleton.mp he]; exact flat_potQ
theorem Tak.split {ω ω1 : Ws} {l m : Addr} {C D : Co} (t : Tak ω l C ω1) (h : (m, D) ∈ ω) : (m, D) = (l, C) ∨ (m, D) ∈ ω1 := by
  induction t with
  | z => exact (List.mem_cons.mp h).imp id id
  | s t ih =>
    rcases List.mem_cons.mp h with z | z
    · exact .inr (List.mem_cons.mpr (.inl z))
    · exact (ih z).imp id fun q => List.mem_cons_of_mem _ q
theorem Tak.has {ω ω1 : Ws} {l a : Addr} {C : Co} (t : Tak ω l C ω1) (h : a ∉ ω.map (·.1)) : a ≠ l ∧ a ∉ ω1.map (·.1) :=
  ⟨fun z => h (z ▸ mem_addr t.mem), fun z => h (by
    obtain ⟨⟨m, D⟩, hm, rfl⟩ := List.mem_map.mp z
    exact mem_addr (t.sub hm))⟩
/-- an owned list is read as one that is never changed, and is owned again -/
theorem t_borrow {c : Cc} {Γ Γ1 : En} {ω ω1 : Ws} {x : Str} {l : Addr} {α : Type} {Rs : α → Sh} {xs : List α} {e : Expr} {R : Bool → Prop} (hu : Upg Γ x (At l) (L Rs xs) Γ1) (ht : Tak ω l (Cl Rs xs) ω1) (hfl : ∀ e ∈ ω1, Flat e.2) (hd : DT c Γ1 ω1 e R ω1) : DT c Γ ω e R ω := by
  intro X fx F σ B H hE hO Q hQ
  obtain ⟨o, h1, h3, O2, e2⟩ := hO.freeze ht
  obtain ⟨hb, hf, _⟩ := hO.ow _ _ ht.mem
  have h3' := h3
  obtain ⟨vs, rfl, h4⟩ := h3
  refine hd X (fx.re hu.names) F σ (upd B l (.lst vs)) H (hu.env (fun v hv => ?_) (hE.mono e2)) O2 Q fun b B2 H2 e3 O3 hr => ?_
  · exact ⟨l, vs, hv, upd_same, h4.mp fun _ s q => (Rs s).mono e2 q⟩
  · have hl : B2 l = some (.lst vs) := e3 _ _ upd_same
    have eB : Ex B (fun a => if a = l then none else B2 a) := fun a o' h => by
      have hne : a ≠ l := fun z => by rw [z, hb] at h; cases h
      show (if a = l then none else B2 a) = some o'
      rw [if_neg hne]
      exact e3 _ _ (by rw [upd_ne hne]; exact h)
    refine hQ b _ H2 eB ⟨hO.nd, fun m D hm => ?_, fun a ha => ?_⟩ hr
    · rcases ht.split hm with z | z
      · cases z
        exact ⟨if_pos rfl, hf, .lst vs, O3.ex _ _ hl, (Cl Rs xs).mono eB h3'⟩
      · obtain ⟨q1, q2, o', q3, q4⟩ := O3.ow m D z
        have hne : m ≠ l := fun y => by rw [y, hl] at q1; cases q1
        exact ⟨by show (if m = l then none else B2 m) = none; rw [if_neg hne]; exact q1, q2, o', q3, hfl _ z _ _ _ q4⟩
    · obtain ⟨z1, z2⟩ := ht.has ha
      obtain ⟨q1, q2⟩ := O3.fr a z2
      show ((if a = l then none else B2 a) = none ∨ F a = none) ∧ H2 a = (if a = l then none else B2 a).or (F a)
      rw [if_neg z1]
      exact ⟨q1, q2⟩
section
variable {c : Cc} {Γ : En} {ω ω1 rest : Ws} {e : Expr} {es : List Expr} {x : Str} {p q : Addr} {pos px : Pos} {S : Sh}
/-- a call that draws; the arguments may be known up to a word -/
theorem d_callX {τ : Type} {t : Ct τ} {k : Nat} {ps : List Str} {ss : List Sh} (G : Gd c.M k x ps t) (hk : k ≤ c.k) (ha : DA c Γ ω (e :: es) ss (pw p q :: qw q :: rest))
    (h : ∀ B vs, All2 (fun v (s : Sh) => s.p B v) vs ss → ∃ g, t.pre g ∧ All2 (fun v (s : Sh) => s.p B v) vs (t.As g) ∧ t.ω g = potW p q ∧ t.ω' g = potW p q ∧ Sle (t.S g) S)
    (hg : Glo c.sc x := by exact rfl) (hdb : (x == ("__debug__" : Str)) = false := by decide) (he : ∀ env, starEach (e :: es) env = (false, eval e env) :: starEach es env := by intro _; rfl) (hpl : ∀ env, (backTo pos (starEach es env)).any (·.1) = false := by intro _; rfl) :
    DE c Γ ω (.Call (.Name x px) (e :: es) [] pos) S (pw p q :: qw q :: rest) := by
  obtain ⟨f, fd, hF, hm, hkp, hb'⟩ := G
  intro X fx F σ B H hE hO Q hQ
  have hF' : FnOk X.prog X.w X.K X.mg X.base CX0 k f fd ps t.sp := by rw [fx.prog, fx.w, fx.K, fx.mg, fx.base]; exact hF
  refine tW.of (pe_call (ds := []) (dvs := []) (E := E0) hF' (fx.room.mono hk) (gl_of fx hg) (by rw [fx.mg]; exact hm) (by rw [fx.K]; exact hkp) (by rw [fx.K]; exact hb') .nil pass0 pa_w hdb (he _) (hpl _)) ?_
  refine ha X fx F σ B H hE hO _ fun vs B1 H1 e1 O1 p1 => ?_
  obtain ⟨g, h1, h2, h3, h4, h5⟩ := h B1 vs p1
  refine ⟨g, frame F rest H1, B1, h1, by rw [List.append_nil]; exact h2, by rw [h3]; exact (show Own F (potW p q ++ rest) B1 H1 from O1).focus, fun v B' H' e2 O2 p2 => ?_⟩
  rw [h4] at O2
  exact hQ v B' H' (e1.trans e2) ((show Own F (potW p q ++ rest) B1 H1 from O1).unfocus e2 O2 rfl) (h5 _ _ p2)
theorem d_callK {τ : Type} {t : Ct τ} {k : Nat} {ps : List Str} {ss : List Sh} (g : τ) (G : Gd c.M k x ps t) (hk : k ≤ c.k) (ha : DA c Γ ω (e :: es) ss (pw p q :: qw q :: rest)) (hs : ss = t.As g) (hp : t.pre g) (h3 : t.ω g = potW p q := by rfl) (h4 : t.ω' g = potW p q := by rfl)
    (hg : Glo c.sc x := by exact rfl) (hdb : (x == ("__debug__" : Str)) = false := by decide) (he : ∀ env, starEach (e :: es) env = (false, eval e env) :: starEach es env := by intro _; rfl) (hpl : ∀ env, (backTo pos (starEach es env)).any (·.1) = false := by intro _; rfl) :
    DE c Γ ω (.Call (.Name x px) (e :: es) [] pos) (t.S g) (pw p q :: qw q :: rest) :=
  d_callX G hk ha (fun B vs h => ⟨g, hp, hs ▸ h, h3, h4, Sle.refl⟩) hg hdb he hpl
/-- a list of things that all answer P -/
theorem d_lstE {α : Type} {P : α → Prop} {R : α → Sh} (n : Nat) (h : DA c Γ ω es (List.replicate n (Es P R)) ω1) (hn : n ≤ sizeLine := by show _ ≤ 16777216; decide) : DE c Γ ω (.List es pos) (Es (fun xs => xs.length = n ∧ ∀ x ∈ xs, P x) (L R)) ω1 := by
  have key : ∀ {B : Hp} {n : Nat} {vs : List V}, All2 (fun v (s : Sh) => s.p B v) vs (List.replicate n (Es P R)) → ∃ xs : List α, (xs.length = n ∧ ∀ x ∈ xs, P x) ∧ All2 (fun v x => (R x).p B v) vs xs := fun {B} n => by
    induction n with
    | zero => intro vs h; cases h; exact ⟨[], ⟨rfl, fun _ h => absurd h (by simp)⟩, .nil⟩
    | succ n ih =>
      intro vs h
      cases h with | cons p h =>
      obtain ⟨y, hy, p⟩ := p
      obtain ⟨xs, ⟨h1, h2⟩, h3⟩ := ih h
      exact ⟨y :: xs, ⟨by simp [h1], fun x hx => (List.mem_cons.mp hx).elim (fun z => z ▸ hy) (h2 x)⟩, .cons p h3⟩
  intro X fx F σ B H hE hO Q hQ
  refine tW.of (pe_lst pa_w) ?_
  refine h X fx F σ B H hE hO _ fun vs B1 H1 e1 O1 p1 => ⟨by rw [p1.len, List.length_replicate]; exact hn, fun p hp => ?_⟩
  obtain ⟨xs, hxs, q⟩ := key p1
  obtain ⟨O2, e2⟩ := O1.new (o := .lst vs) hp
  exact hQ _ _ _ (e1.trans e2) O2 ⟨xs, hxs, p, vs, rfl, upd_same, q.mp fun _ s q => (R s).mono e2 q⟩
end
/-- a def's body, as the judge's head asks for it -/
theorem gd_fn {τ : Type} {t : Ct τ} {M : Mo} {k : Nat} {x qual : Str} {st : Stmt} {f : Addr} {fd : FuncData} {N ps : List Str} (F : Fun M.K x qual st f fd) (S : FnScope N ps (defScope st)) (hlen : ∀ g, (t.As g).length = ps.length)
    (hbody : ∀ (X : Cx) (B0 F0 : Hp) (D : Ends) (g : τ), t.pre g → Rt B0 F0 D.rt (t.S g) (t.ω' g) → (∀ σ H, D.rt .non H → D.nx σ H) → DS ⟨M, defScope st, k, true⟩ X B0 F0 D (mkΓ N (t.As g)) (t.ω g) (defBody st)) : FnOk M.P M.w M.K M.mg M.base CX0 (k + 1) f fd ps t.sp := by
  refine F.ok S (fun vs H Q E h => ?_) (fun cdv A outer s H vs Q E hr h => ?_)
  · obtain ⟨g, _, _, _, h2, _⟩ := h
    rw [h2.len, hlen]
  · obtain ⟨g, F0, B, hp, hv, hO, hQ⟩ := h
    have hl : ps.length ≤ N.length := by have := congrArg List.length S.pre; rw [List.length_take] at this; omega
    refine ⟨_, pss_w, hbody _ B F0 _ g hp (fun v B' H' e1 O1 p1 => hQ v B' H' e1 O1 p1) (fun _ _ h => h) ?_ _ B H (Ex.refl B) (mk_env N _ vs hv (by rw [hlen]; exact hl)) hO⟩
    rw [mk_names]
    exact ⟨rfl, rfl, rfl, rfl, rfl, rfl, rfl, S.nd, rfl, hr, fun _ _ _ => rfl, PassesOwn.never⟩
theorem own_nil {H : Hp} : Own (fun _ => none) [] H H := ⟨List.nodup_nil, fun _ _ h => absurd h (by simp), fun a _ => ⟨.inr rfl, by cases H a <;> rfl⟩⟩
/-- what the law asks of its script -/
def lawC (K : PySem.W.Frag) (n : Nat) : Ct (List Int) := { As := fun ns => [Sk K ns], pre := fun ns => ns.length ≤ n, S := fun _ => Bo true }
theorem law_sp {K : PySem.W.Frag} {n : Nat} {H : Hp} {a : Addr} {ns : List Int} {E : XK} (hl : ns.length ≤ n) (hS : SqL K H a (ns.map V.int)) : (lawC K n).sp [.ref a] H (fun v _ => v = .bl true) E :=
  ⟨ns, fun _ => none, H, hl, .cons ⟨a, rfl, hS⟩ .nil, own_nil, fun _ _ _ _ _ p => p⟩
end ZZ

set_option maxHeartbeats 1000000
/-! K19m: the mathematics of sightings and losses, in plain Lean. -/
namespace K19
open ZZ (tab tab_len tab_succ tab_get tab_get' tab_ext tab_set)
inductive Row | inn (n : Int) | out (n : Int) | seen (a b : Int)
deriving DecidableEq, Inhabited
def Row.ch : Row → Int
  | .inn n => n
  | .out n => -n
  | .seen _ _ => 0
def Row.wb : Row → Int
  | .seen a _ => a
  | _ => 0
def Row.Wf : Row → Prop
  | .inn n => 1 ≤ n ∧ n ≤ 999
  | .out n => 1 ≤ n ∧ n ≤ 999
  | .seen a b => 0 ≤ a ∧ a ≤ b ∧ b ≤ 9999
def Wf (rows : List Row) : Prop := ∀ r ∈ rows, r.Wf
/-! ### counts and tolls -/
def cn (rows : List Row) (k : Nat) : Int := ((rows.take k).map Row.ch).sum
theorem cn_zero {rows : List Row} : cn rows 0 = 0 := by simp [cn]
theorem cn_succ {rows : List Row} {k : Nat} {r : Row} (h : rows[k]? = some r) : cn rows (k + 1) = cn rows k + r.ch := by
  unfold cn
  rw [List.take_add_one, h]
  simp
def T (rows : List Row) : Nat → Int
  | 0 => 0
  | k + 1 => match rows[k]? with
    | some (.seen _ b) => max (T rows k) (cn rows (k + 1) - b)
    | _ => T rows k
def M (rows : List Row) : Nat → Int
  | 0 => 0
  | k + 1 => match rows[k]? with
    | some r => min (cn rows k) (cn rows (k + 1)) - r.wb
    | none => 0
/-- the least of M from place n - d on -/
def Ud (rows : List Row) : Nat → Int
  | 0 => M rows rows.length
  | d + 1 => min (M rows (rows.length - (d + 1))) (Ud rows d)
def U' (rows : List Row) (k : Nat) : Int := Ud rows (rows.length - k)
/-- what may lie there at most -/
def top (rows : List Row) (k : Nat) : Int := cn rows k - T rows k
def Row.okAt (t : Int) : Row → Bool
  | .inn _ => true
  | .out n => decide (n ≤ t)
  | .seen a _ => decide (a ≤ t)
def ok (rows : List Row) (k : Nat) : Bool := match rows[k]? with
  | some r => r.okAt (top rows k)
  | none => true
/-- the first place that can't be, or the length -/
def bad (rows : List Row) : Nat := ((List.range rows.length).find? fun k => !ok rows k).getD rows.length
theorem bad_le {rows : List Row} : bad rows ≤ rows.length := by
  unfold bad
  cases h : (List.range rows.length).find? fun k => !ok rows k with
  | none => exact Nat.le_refl _
  | some k => exact Nat.le_of_lt (List.mem_range.mp (List.mem_of_find?_eq_some h))
theorem bad_before {rows : List Row} {k : Nat} (h : k < bad rows) : ok rows k = true := by
  unfold bad at h
  cases e : (List.range rows.length).find? fun k => !ok rows k with
  | none =>
    rw [e] at h
    have := (List.find?_eq_none.mp e) k (List.mem_range.mpr h)
    simpa using this
  | some m =>
    rw [e] at h
    have h : k < m := h
    obtain ⟨_, as, bs, hl, hno⟩ := List.find?_eq_some_iff_append.mp e
    have hm : m < rows.length := List.mem_range.mp (List.mem_of_find?_eq_some e)
    -- the m-th of the range is m, so as = range m
    have ha : as.length = m := by
      have q : (List.range rows.length)[as.length]? = some m := by rw [hl]; simp
      rw [List.getElem?_range (by
        have := congrArg List.length hl
        simp at this
        omega)] at q
      exact Option.some.inj q
    have q : as[k]? = some k := by
      have q : (List.range rows.length)[k]? = some k := List.getElem?_range (by omega)
      rw [hl, List.getElem?_append_left (by omega)] at q
      exact q
    have := hno k (List.mem_of_getElem? q)
    simpa using this
theorem bad_at {rows : List Row} (h : bad rows < rows.length) : ok rows (bad rows) = false := by
  unfold bad at h ⊢
  cases e : (List.range rows.length).find? fun k => !ok rows k with
  | none => rw [e] at h; exact absurd h (Nat.lt_irrefl _)
  | some m =>
    have := List.find?_some e
    simpa using this
theorem bad_eq {rows : List Row} {k : Nat} (h1 : ∀ j, j < k → ok rows j = true) (h2 : ok rows k = false) (h3 : k < rows.length) : bad rows = k := by
  rcases Nat.lt_trichotomy (bad rows) k with h | h | h
  · have := h1 _ h
    rw [bad_at (by omega)] at this
    cases this
  · exact h
  · rw [bad_before h] at h2; cases h2
theorem bad_all {rows : List Row} (h1 : ∀ j, j < rows.length → ok rows j = true) : bad rows = rows.length := by
  rcases Nat.lt_or_ge (bad rows) rows.length with h | h
  · have := h1 _ h
    rw [bad_at h] at this
    cases this
  · exact Nat.le_antisymm bad_le h
def Row.go (t : Int) : Row → Int
  | .inn n => t + n
  | .out n => t - n
  | .seen _ b => min t b
/-- how what may lie there goes on -/
theorem top_succ {rows : List Row} {k : Nat} {r : Row} (h : rows[k]? = some r) : top rows (k + 1) = r.go (top rows k) := by
  unfold top
  rw [cn_succ h]
  cases r with
  | inn n => simp only [T, h, Row.ch, Row.go]; omega
  | out n => simp only [T, h, Row.ch, Row.go]; omega
  | seen a b => simp only [T, h, Row.ch, Row.go, cn_succ h]; omega
theorem top_zero {rows : List Row} : top rows 0 = 0 := by simp [top, cn_zero, T]
theorem wf_get {rows : List Row} (h : Wf rows) {k : Nat} {r : Row} (e : rows[k]? = some r) : r.Wf := h r (List.mem_of_getElem? e)
theorem top_nn {rows : List Row} (hw : Wf rows) : ∀ {k : Nat}, k ≤ bad rows → 0 ≤ top rows k
  | 0, _ => by rw [top_zero]; exact Int.le_refl 0
  | k + 1, h => by
    have ih := top_nn hw (k := k) (by omega)
    have hk : k < rows.length := Nat.lt_of_lt_of_le h bad_le
    obtain ⟨r, e⟩ : ∃ r, rows[k]? = some r := ⟨_, List.getElem?_eq_getElem hk⟩
    have o := bad_before (rows := rows) (k := k) h
    have w := wf_get hw e
    rw [top_succ e]
    unfold ok at o
    rw [e] at o
    cases r with
    | inn n => simp only [Row.Wf] at w; show 0 ≤ top rows k + n; omega
    | out n => simp only [Row.okAt, decide_eq_true_eq] at o; show 0 ≤ top rows k - n; omega
    | seen a b => simp only [Row.Wf] at w; show 0 ≤ min (top rows k) b; omega

/-! ### are all rows explained -/
def Row.cap (t : Int) : Row → Bool
  | .seen _ b => decide (t ≤ b)
  | _ => true
def expl : Int → List Row → List Int → Bool
  | th, r :: rs, l :: ls => decide (0 ≤ l) && decide (l ≤ th) && decide (r.wb ≤ th - l + r.ch) && r.cap (th - l + r.ch) && expl (th - l + r.ch) rs ls
  | _, _, _ => true
def loss (rows : List Row) : List Int := tab (fun k => T rows (k + 1) - T rows k) rows.length
def cb (rows : List Row) : Bool := expl 0 rows (loss rows)
theorem drop_cons {α : Type} {l : List α} {k : Nat} {x : α} (h : l[k]? = some x) : l.drop k = x :: l.drop (k + 1) := by
  obtain ⟨hk, rfl⟩ := List.getElem?_eq_some_iff.mp h
  exact List.drop_eq_getElem_cons hk
theorem loss_get {rows : List Row} {k : Nat} (h : k < rows.length) : (loss rows)[k]? = some (T rows (k + 1) - T rows k) := tab_get h
theorem T_seen {rows : List Row} {k : Nat} {a b : Int} (h : rows[k]? = some (.seen a b)) : T rows (k + 1) = max (T rows k) (cn rows (k + 1) - b) := by simp only [T, h]
theorem T_other {rows : List Row} {k : Nat} {r : Row} (h : rows[k]? = some r) (hr : ∀ a b, r ≠ .seen a b) : T rows (k + 1) = T rows k := by
  cases r with
  | seen a b => exact absurd rfl (hr a b)
  | inn n => simp only [T, h]
  | out n => simp only [T, h]
/-- one step of the explanation with the least tolls -/
theorem expl_step {rows : List Row} (hw : Wf rows) {k : Nat} (hk : k < rows.length) (h0 : 0 ≤ top rows k) :
    expl (top rows k) (rows.drop k) ((loss rows).drop k) = (ok rows k && expl (top rows (k + 1)) (rows.drop (k + 1)) ((loss rows).drop (k + 1))) := by
  obtain ⟨r, e⟩ : ∃ r, rows[k]? = some r := ⟨_, List.getElem?_eq_getElem hk⟩
  rw [drop_cons e, drop_cons (loss_get hk)]
  have w := wf_get hw e
  have hs := top_succ e
  have hc := cn_succ e
  have ht : top rows (k + 1) = top rows k - (T rows (k + 1) - T rows k) + r.ch := by
    unfold top
    rw [hc]
    omega
  have hok : ok rows k = r.okAt (top rows k) := by unfold ok; rw [e]
  rw [hok]
  show (decide (0 ≤ T rows (k + 1) - T rows k) && decide (T rows (k + 1) - T rows k ≤ top rows k) && decide (r.wb ≤ top rows k - (T rows (k + 1) - T rows k) + r.ch) && r.cap (top rows k - (T rows (k + 1) - T rows k) + r.ch) && expl (top rows k - (T rows (k + 1) - T rows k) + r.ch) (rows.drop (k + 1)) ((loss rows).drop (k + 1))) = _
  rw [← ht]
  congr 1
  cases r with
  | inn n =>
    have hT := T_other e (fun _ _ z => by cases z)
    rw [Bool.eq_iff_iff]
    simp only [Bool.and_eq_true, decide_eq_true_eq]
    simp only [Row.Wf, Row.okAt, Row.wb, Row.go, Row.cap] at w hs ⊢
    simp
    omega
  | out n =>
    have hT := T_other e (fun _ _ z => by cases z)
    rw [Bool.eq_iff_iff]
    simp only [Bool.and_eq_true, decide_eq_true_eq]
    simp only [Row.Wf, Row.okAt, Row.wb, Row.go, Row.cap] at w hs ⊢
    simp
    omega
  | seen a b =>
    have hT := T_seen e
    rw [Bool.eq_iff_iff]
    simp only [Bool.and_eq_true, decide_eq_true_eq]
    simp only [Row.Wf, Row.okAt, Row.wb, Row.go, Row.cap, Row.ch] at w hs hc ⊢
    unfold top at h0 hs ⊢
    simp
    omega
theorem expl_from {rows : List Row} (hw : Wf rows) : ∀ (d k : Nat), k + d = rows.length → k ≤ bad rows → expl (top rows k) (rows.drop k) ((loss rows).drop k) = decide (bad rows = rows.length)
  | 0, k, h, hb => by
    have e : k = rows.length := by omega
    subst e
    rw [List.drop_length]
    have : bad rows = rows.length := Nat.le_antisymm bad_le hb
    simp [this, expl]
  | d + 1, k, h, hb => by
    rw [expl_step hw (by omega) (top_nn hw hb)]
    cases hk : ok rows k with
    | true =>
      have hb' : k + 1 ≤ bad rows := by
        rcases Nat.lt_or_ge k (bad rows) with q | q
        · exact q
        · have : bad rows = k := by omega
          have z := bad_at (rows := rows) (by omega)
          rw [this, hk] at z; cases z
      rw [Bool.true_and]
      exact expl_from hw d (k + 1) (by omega) hb'
    | false =>
      have : ¬ bad rows = rows.length := by
        intro q
        have := bad_before (rows := rows) (k := k) (by omega)
        rw [hk] at this; cases this
      simp [this]
theorem cb_eq {rows : List Row} (hw : Wf rows) : cb rows = decide (bad rows = rows.length) := by
  have := expl_from hw rows.length 0 (by omega) (Nat.zero_le _)
  rw [top_zero] at this
  exact this
end K19

set_option maxHeartbeats 2000000
/-! K19a: the text by places, the rows' shape. -/
namespace K19
open PySem PySem.Spec PyProof.Rows L2 ZZ
open Evl (Ex)
local macro_rules | `(tactic| walk_at "has") => `(tactic| (with_reducible first | exact Has.z | exact Has.s Has.z | exact Has.s (Has.s Has.z) | exact Has.s (Has.s (Has.s Has.z)) | exact Has.s (Has.s (Has.s (Has.s Has.z))) | exact Has.s (Has.s (Has.s (Has.s (Has.s Has.z)))) | exact Has.s (Has.s (Has.s (Has.s (Has.s (Has.s Has.z))))) | exact Has.s (Has.s (Has.s (Has.s (Has.s (Has.s (Has.s Has.z))))))))
local macro_rules | `(tactic| walk_at "put") => `(tactic| (with_reducible first | exact Put.z | exact Put.s Put.z | exact Put.s (Put.s Put.z) | exact Put.s (Put.s (Put.s Put.z)) | exact Put.s (Put.s (Put.s (Put.s Put.z))) | exact Put.s (Put.s (Put.s (Put.s (Put.s Put.z)))) | exact Put.s (Put.s (Put.s (Put.s (Put.s (Put.s Put.z))))) | exact Put.s (Put.s (Put.s (Put.s (Put.s (Put.s (Put.s Put.z))))))))
local macro_rules | `(tactic| walk_at "swp") => `(tactic| (with_reducible first | exact Swp.z | exact Swp.s Swp.z | exact Swp.s (Swp.s Swp.z) | exact Swp.s (Swp.s (Swp.s Swp.z)) | exact Swp.s (Swp.s (Swp.s (Swp.s Swp.z))) | exact Swp.s (Swp.s (Swp.s (Swp.s (Swp.s Swp.z)))) | exact Swp.s (Swp.s (Swp.s (Swp.s (Swp.s (Swp.s Swp.z))))) | exact Swp.s (Swp.s (Swp.s (Swp.s (Swp.s (Swp.s (Swp.s Swp.z))))))))
local macro_rules | `(tactic| walk_at "tak") => `(tactic| (with_reducible first | exact Tak.z | exact Tak.s Tak.z | exact Tak.s (Tak.s Tak.z) | exact Tak.s (Tak.s (Tak.s Tak.z)) | exact Tak.s (Tak.s (Tak.s (Tak.s Tak.z))) | exact Tak.s (Tak.s (Tak.s (Tak.s (Tak.s Tak.z)))) | exact Tak.s (Tak.s (Tak.s (Tak.s (Tak.s (Tak.s Tak.z))))) | exact Tak.s (Tak.s (Tak.s (Tak.s (Tak.s (Tak.s (Tak.s Tak.z))))))))
local macro_rules | `(tactic| walk_at "hold") => `(tactic| (with_reducible first | exact Hold.z | exact Hold.s Hold.z | exact Hold.s (Hold.s Hold.z) | exact Hold.s (Hold.s (Hold.s Hold.z)) | exact Hold.s (Hold.s (Hold.s (Hold.s Hold.z))) | exact Hold.s (Hold.s (Hold.s (Hold.s (Hold.s Hold.z)))) | exact Hold.s (Hold.s (Hold.s (Hold.s (Hold.s (Hold.s Hold.z))))) | exact Hold.s (Hold.s (Hold.s (Hold.s (Hold.s (Hold.s (Hold.s Hold.z))))))))
local macro_rules | `(tactic| walk_at "upe") => `(tactic| (with_reducible first | exact UpE.z | exact UpE.s UpE.z | exact UpE.s (UpE.s UpE.z) | exact UpE.s (UpE.s (UpE.s UpE.z)) | exact UpE.s (UpE.s (UpE.s (UpE.s UpE.z))) | exact UpE.s (UpE.s (UpE.s (UpE.s (UpE.s UpE.z)))) | exact UpE.s (UpE.s (UpE.s (UpE.s (UpE.s (UpE.s UpE.z))))) | exact UpE.s (UpE.s (UpE.s (UpE.s (UpE.s (UpE.s (UpE.s UpE.z))))))))
local macro_rules | `(tactic| walk_at "fg") => `(tactic| (repeat (first | exact Fg.nil | (with_reducible refine Fg.keep rfl ?_) | (with_reducible refine Fg.drop ?_))))
local macro_rules | `(tactic| walk_at "nonb") => `(tactic| first | exact nonb_I | exact nonb_No | exact nonb_Bo | exact nonb_S | exact nonb_seq | exact nonb_tup)

def stm (i : Nat) : Stmt := PySem.Challenge.pw_oncecounted_k19_sightings_pin_losses.main.body.getD i (.Pass ⟨0, 0, 0, 0⟩)
abbrev nm_change_of : List Str := ["row"]
theorem sc_change_of : FnScope nm_change_of ["row"] (defScope (stm 1)) := ⟨rfl, rfl, rfl, by decide +kernel, rfl, by decide +kernel, by decide +kernel⟩
abbrev nm_wanted_behind : List Str := ["row"]
theorem sc_wanted_behind : FnScope nm_wanted_behind ["row"] (defScope (stm 2)) := ⟨rfl, rfl, rfl, by decide +kernel, rfl, by decide +kernel, by decide +kernel⟩
abbrev nm_book_count : List Str := ["rows", "k", "row"]
theorem sc_book_count : FnScope nm_book_count ["rows", "k"] (defScope (stm 3)) := ⟨rfl, rfl, rfl, by decide +kernel, rfl, by decide +kernel, by decide +kernel⟩
abbrev nm_book_counts : List Str := ["rows", "counts", "row"]
theorem sc_book_counts : FnScope nm_book_counts ["rows"] (defScope (stm 4)) := ⟨rfl, rfl, rfl, by decide +kernel, rfl, by decide +kernel, by decide +kernel⟩
abbrev nm_least_tolls : List Str := ["rows", "counts", "tolls", "at", "row", "least"]
theorem sc_least_tolls : FnScope nm_least_tolls ["rows"] (defScope (stm 5)) := ⟨rfl, rfl, rfl, by decide +kernel, rfl, by decide +kernel, by decide +kernel⟩
abbrev nm_most_tolls : List Str := ["rows", "counts", "most", "at", "row"]
theorem sc_most_tolls : FnScope nm_most_tolls ["rows"] (defScope (stm 6)) := ⟨rfl, rfl, rfl, by decide +kernel, rfl, by decide +kernel, by decide +kernel⟩
abbrev nm_least_losses : List Str := ["rows", "tolls", "toll", "later"]
theorem sc_least_losses : FnScope nm_least_losses ["rows"] (defScope (stm 7)) := ⟨rfl, rfl, rfl, by decide +kernel, rfl, by decide +kernel, by decide +kernel⟩
abbrev nm_are_explained : List Str := ["rows", "losses", "there", "row", "lost"]
theorem sc_are_explained : FnScope nm_are_explained ["rows", "losses"] (defScope (stm 8)) := ⟨rfl, rfl, rfl, by decide +kernel, rfl, by decide +kernel, by decide +kernel⟩
abbrev nm_can_be : List Str := ["rows"]
theorem sc_can_be : FnScope nm_can_be ["rows"] (defScope (stm 9)) := ⟨rfl, rfl, rfl, by decide +kernel, rfl, by decide +kernel, by decide +kernel⟩
abbrev nm_top_behind : List Str := ["rows", "at"]
theorem sc_top_behind : FnScope nm_top_behind ["rows", "at"] (defScope (stm 10)) := ⟨rfl, rfl, rfl, by decide +kernel, rfl, by decide +kernel, by decide +kernel⟩
abbrev nm_clash_at : List Str := ["rows", "k", "counts", "at", "top"]
theorem sc_clash_at : FnScope nm_clash_at ["rows", "k"] (defScope (stm 11)) := ⟨rfl, rfl, rfl, by decide +kernel, rfl, by decide +kernel, by decide +kernel⟩
abbrev nm_clash : List Str := ["rows", "k", "at"]
theorem sc_clash : FnScope nm_clash ["rows"] (defScope (stm 12)) := ⟨rfl, rfl, rfl, by decide +kernel, rfl, by decide +kernel, by decide +kernel⟩
abbrev nm_least_lost : List Str := ["rows", "j", "k"]
theorem sc_least_lost : FnScope nm_least_lost ["rows", "j", "k"] (defScope (stm 13)) := ⟨rfl, rfl, rfl, by decide +kernel, rfl, by decide +kernel, by decide +kernel⟩
abbrev nm_most_lost : List Str := ["rows", "j", "k"]
theorem sc_most_lost : FnScope nm_most_lost ["rows", "j", "k"] (defScope (stm 14)) := ⟨rfl, rfl, rfl, by decide +kernel, rfl, by decide +kernel, by decide +kernel⟩
abbrev nm_lost_range : List Str := ["rows", "j", "k"]
theorem sc_lost_range : FnScope nm_lost_range ["rows", "j", "k"] (defScope (stm 15)) := ⟨rfl, rfl, rfl, by decide +kernel, rfl, by decide +kernel, by decide +kernel⟩
abbrev nm_there_range : List Str := ["rows", "k", "count"]
theorem sc_there_range : FnScope nm_there_range ["rows", "k"] (defScope (stm 16)) := ⟨rfl, rfl, rfl, by decide +kernel, rfl, by decide +kernel, by decide +kernel⟩
abbrev nm_sure_losses : List Str := ["rows", "pairs", "j", "least", "most", "k"]
theorem sc_sure_losses : FnScope nm_sure_losses ["rows"] (defScope (stm 17)) := ⟨rfl, rfl, rfl, by decide +kernel, rfl, by decide +kernel, by decide +kernel⟩
abbrev nm__law_pot : List Str := ["script", "x"]
theorem sc__law_pot : FnScope nm__law_pot ["script"] (defScope (stm 19)) := ⟨rfl, rfl, rfl, by decide +kernel, rfl, by decide +kernel, by decide +kernel⟩
abbrev nm__law_draw : List Str := ["pot", "many", "more", "cells", "at"]
theorem sc__law_draw : FnScope nm__law_draw ["pot", "many"] (defScope (stm 20)) := ⟨rfl, rfl, rfl, by decide +kernel, rfl, by decide +kernel, by decide +kernel⟩
abbrev nm__law_same : List Str := ["told", "due", "k"]
theorem sc__law_same : FnScope nm__law_same ["told", "due"] (defScope (stm 21)) := ⟨rfl, rfl, rfl, by decide +kernel, rfl, by decide +kernel, by decide +kernel⟩
abbrev nm__law_rows : List Str := ["pot", "many", "rows", "there", "k", "kind", "wide", "least"]
theorem sc__law_rows : FnScope nm__law_rows ["pot"] (defScope (stm 22)) := ⟨rfl, rfl, rfl, by decide +kernel, rfl, by decide +kernel, by decide +kernel⟩
abbrev nm__law_moved : List Str := ["rows", "j", "k", "total", "row"]
theorem sc__law_moved : FnScope nm__law_moved ["rows", "j", "k"] (defScope (stm 23)) := ⟨rfl, rfl, rfl, by decide +kernel, rfl, by decide +kernel, by decide +kernel⟩
abbrev nm__law_tops : List Str := ["rows", "tops", "row", "most"]
theorem sc__law_tops : FnScope nm__law_tops ["rows"] (defScope (stm 24)) := ⟨rfl, rfl, rfl, by decide +kernel, rfl, by decide +kernel, by decide +kernel⟩
abbrev nm__law_lows : List Str := ["rows", "needs", "k", "lows", "row", "later", "low"]
theorem sc__law_lows : FnScope nm__law_lows ["rows"] (defScope (stm 25)) := ⟨rfl, rfl, rfl, by decide +kernel, rfl, by decide +kernel, by decide +kernel⟩
abbrev nm__law_first_clash : List Str := ["rows", "k", "wants", "j", "begins"]
theorem sc__law_first_clash : FnScope nm__law_first_clash ["rows", "k"] (defScope (stm 26)) := ⟨rfl, rfl, rfl, by decide +kernel, rfl, by decide +kernel, by decide +kernel⟩
abbrev nm__law_lost : List Str := ["rows", "j", "k", "lows", "tops", "change", "held", "row"]
theorem sc__law_lost : FnScope nm__law_lost ["rows", "j", "k", "lows", "tops"] (defScope (stm 27)) := ⟨rfl, rfl, rfl, by decide +kernel, rfl, by decide +kernel, by decide +kernel⟩
abbrev nm__law_sure : List Str := ["rows", "lows", "least", "j", "found", "held", "line", "row", "k", "cut"]
theorem sc__law_sure : FnScope nm__law_sure ["rows", "lows"] (defScope (stm 28)) := ⟨rfl, rfl, rfl, by decide +kernel, rfl, by decide +kernel, by decide +kernel⟩
abbrev nm__law_right : List Str := ["rows", "moments", "handed", "tops", "fine", "lows", "due", "j", "k", "between", "there", "sure"]
theorem sc__law_right : FnScope nm__law_right ["rows", "moments", "handed"] (defScope (stm 29)) := ⟨rfl, rfl, rfl, by decide +kernel, rfl, by decide +kernel, by decide +kernel⟩
abbrev nm__law_spoilt : List Str := ["pot", "rows", "turned", "k", "wants", "least"]
theorem sc__law_spoilt : FnScope nm__law_spoilt ["pot", "rows"] (defScope (stm 30)) := ⟨rfl, rfl, rfl, by decide +kernel, rfl, by decide +kernel, by decide +kernel⟩
abbrev nm__law_two_pins : List Str := ["pot", "one", "k", "tops", "lows", "j", "number", "two", "lost"]
theorem sc__law_two_pins : FnScope nm__law_two_pins ["pot", "one", "k"] (defScope (stm 31)) := ⟨rfl, rfl, rfl, by decide +kernel, rfl, by decide +kernel, by decide +kernel⟩
abbrev nm__law_grown : List Str := ["pot", "rows", "n", "handed", "due", "more", "row"]
theorem sc__law_grown : FnScope nm__law_grown ["pot", "rows"] (defScope (stm 32)) := ⟨rfl, rfl, rfl, by decide +kernel, rfl, by decide +kernel, by decide +kernel⟩
abbrev nm_law : List Str := ["script", "pot", "rows", "moments", "turn", "tops", "lows", "k", "middle", "numbers", "number", "one"]
theorem sc_law : FnScope nm_law ["script"] (defScope (stm 33)) := ⟨rfl, rfl, rfl, by decide +kernel, rfl, by decide +kernel, by decide +kernel⟩

/-! ### a row -/
def Row.ss : Row → List Sh
  | .inn n => [Tx "in", I n]
  | .out n => [Tx "out", I n]
  | .seen a b => [Tx "seen", I a, I b]
def Rw (r : Row) : Sh := U r.ss
def Row.tag : Row → Str
  | .inn _ => "in"
  | .out _ => "out"
  | .seen _ _ => "seen"
def Row.a1 : Row → Int
  | .inn n => n
  | .out n => n
  | .seen a _ => a
def Row.a2 : Row → Int
  | .seen _ b => b
  | _ => 0
def Row.la : Row → Int
  | .inn n => n
  | .out n => n
  | .seen _ b => b
theorem ne_io : ¬ ("in" : Str) = "out" := by decide +kernel
theorem ne_is : ¬ ("in" : Str) = "seen" := by decide +kernel
theorem ne_oi : ¬ ("out" : Str) = "in" := by decide +kernel
theorem ne_os : ¬ ("out" : Str) = "seen" := by decide +kernel
theorem ne_si : ¬ ("seen" : Str) = "in" := by decide +kernel
theorem ne_so : ¬ ("seen" : Str) = "out" := by decide +kernel
section
variable {c : Cc} {Γ : En} {ω ω1 ω2 : Ws} {a b : Expr} {pos : Pos} {r : Row}
theorem r_tag (ha : DE c Γ ω a (Rw r) ω1) (hb : DE c Γ ω1 b (I 0) ω2) (hs : PlainIx b := by exact fun _ _ => rfl) : DE c Γ ω (.Subscript a b pos) (Tx r.tag) ω2 := d_ixU ha hb (by cases r <;> rfl) hs
theorem r_a1 (ha : DE c Γ ω a (Rw r) ω1) (hb : DE c Γ ω1 b (I 1) ω2) (hs : PlainIx b := by exact fun _ _ => rfl) : DE c Γ ω (.Subscript a b pos) (I r.a1) ω2 := d_ixU ha hb (by cases r <;> rfl) hs
theorem r_a2 (ha : DE c Γ ω a (Rw r) ω1) (hb : DE c Γ ω1 b (I 2) ω2) (h : r.tag = "seen") (hs : PlainIx b := by exact fun _ _ => rfl) : DE c Γ ω (.Subscript a b pos) (I r.a2) ω2 := d_ixU ha hb (by
  cases r with
  | inn n => exact absurd h ne_is
  | out n => exact absurd h ne_os
  | seen a b => rfl) hs
theorem r_la (ha : DE c Γ ω a (Rw r) ω1) (hb : DE c Γ ω1 b (I (-1)) ω2) (hs : PlainIx b := by exact fun _ _ => rfl) : DE c Γ ω (.Subscript a b pos) (I r.la) ω2 := d_ixU ha hb (by cases r <;> rfl) hs
end
theorem tag_in {r : Row} (h : true = decide (r.tag = ("in" : Str))) : ∃ n, r = .inn n := by
  have h := of_decide_eq_true h.symm
  cases r with
  | inn n => exact ⟨n, rfl⟩
  | out n => exact absurd h ne_oi
  | seen a b => exact absurd h ne_si
theorem tag_out {r : Row} (h : true = decide (r.tag = ("out" : Str))) : ∃ n, r = .out n := by
  have h := of_decide_eq_true h.symm
  cases r with
  | inn n => exact absurd h ne_io
  | out n => exact ⟨n, rfl⟩
  | seen a b => exact absurd h ne_so
theorem tag_seen {r : Row} (h : true = decide (r.tag = ("seen" : Str))) : ∃ a b, r = .seen a b := by
  have h := of_decide_eq_true h.symm
  cases r with
  | inn n => exact absurd h ne_is
  | out n => exact absurd h ne_os
  | seen a b => exact ⟨a, b, rfl⟩
theorem not_in {r : Row} (h : false = decide (r.tag = ("in" : Str))) : ∀ n, r ≠ .inn n := fun n e => by
  subst e
  exact absurd rfl (of_decide_eq_false h.symm)
theorem not_out {r : Row} (h : false = decide (r.tag = ("out" : Str))) : ∀ n, r ≠ .out n := fun n e => by
  subst e
  exact absurd rfl (of_decide_eq_false h.symm)
theorem not_seen {r : Row} (h : false = decide (r.tag = ("seen" : Str))) : ∀ a b, r ≠ .seen a b := fun a b e => by
  subst e
  exact absurd rfl (of_decide_eq_false h.symm)

/-! ### the contracts and the walks -/
section
variable {M : Mo}
def c1 : Ct Row := { As := fun r => [Rw r], S := fun r => I r.ch }
theorem ok1 (P : Pr M "change_of" (stm 1) ["row"]) : Gd M 1 "change_of" ["row"] c1 := by
  refine P.gd sc_change_of (by intro _; rfl) fun X B0 F0 D r _ hR hN => ?_
  dsimp only [mkΓ, c1]
  refine ds_if (t_eqS (r_tag (d_name Has.z) d_int) d_str) ?_ ?_
  · intro h
    obtain ⟨n, rfl⟩ := tag_in h
    exact ds_ret0 hR (r_a1 (d_name Has.z) d_int)
  · intro h
    refine ds_next ?_
    refine ds_if (t_eqS (r_tag (d_name Has.z) d_int) d_str) ?_ ?_
    · intro h2
      obtain ⟨n, rfl⟩ := tag_out h2
      exact ds_ret0 hR (d_neg (r_a1 (d_name Has.z) d_int))
    · intro h2
      refine ds_next ?_
      cases r with
      | inn n => exact absurd rfl (not_in h n)
      | out n => exact absurd rfl (not_out h2 n)
      | seen a b => exact ds_ret0 hR d_int
def c2 : Ct Row := { As := fun r => [Rw r], S := fun r => I r.wb }
theorem ok2 (P : Pr M "wanted_behind" (stm 2) ["row"]) : Gd M 1 "wanted_behind" ["row"] c2 := by
  refine P.gd sc_wanted_behind (by intro _; rfl) fun X B0 F0 D r _ hR hN => ?_
  dsimp only [mkΓ, c2]
  refine ds_if (t_eqS (r_tag (d_name Has.z) d_int) d_str) ?_ ?_
  · intro h
    obtain ⟨a, b, rfl⟩ := tag_seen h
    exact ds_ret0 hR (r_a1 (d_name Has.z) d_int)
  · intro h
    refine ds_next ?_
    cases r with
    | seen a b => exact absurd rfl (not_seen h a b)
    | inn n => exact ds_ret0 hR d_int
    | out n => exact ds_ret0 hR d_int

def c3 : Ct ((Bool × List Row) × Nat) := { As := fun g => [Sq g.1.1 Rw g.1.2, I g.2], pre := fun g => g.1.2.length ≤ 100, S := fun g => I (cn g.1.2 g.2) }
theorem ok3 (Bl : Blt M) (P : Pr M "book_count" (stm 3) ["rows", "k"]) (G1 : Gd M 1 "change_of" ["row"] c1) : Gd M 2 "book_count" ["rows", "k"] c3 := by
  refine P.gd sc_book_count (by intro _; rfl) fun X B0 F0 D g hp hR hN => ?_
  obtain ⟨⟨bb, rows⟩, k⟩ := g
  dsimp only [mkΓ, c3] at hp ⊢
  have e1 : (cut rows none (some (k : Int))) = rows.take k := cut_take
  refine ds_ret0 hR (d_sum (DN.frz (n_lcM (own := [("row", 2)]) (Γw := [("rows", _), ("k", _), ("row", none)]) (R := I) (blkOk_by (by show blkC nm_book_count (defScope (stm 3)) _ _ = true; decide +kernel)) (by repeat constructor) (i_seq (d_sl (d_name Has.z) o_none (o_some (d_name (Has.s Has.z))))) ((rows.take k).map Row.ch) (by rw [e1]; simp) ?_ ?_)) Bl.sum) rfl
  · show _ < 16777216
    rw [e1]
    simp
    omega
  · intro i y z hy hz
    rw [e1] at hy
    rw [List.getElem?_map, hy] at hz
    obtain rfl := Option.some.inj hz
    exact ⟨_, _, (g_name (Put.s (Put.s Put.z))), by simp, (d_call0 (t := c1) (_) G1 (Nat.le_of_ble_eq_true rfl) (a_cons (d_name (Has.s (Has.s Has.z))) a_nil) rfl trivial)⟩
def c4 : Ct (Bool × List Row) := { As := fun g => [Sq g.1 Rw g.2], pre := fun g => g.2.length ≤ 100, S := fun g => L I (tab (cn g.2) (g.2.length + 1)) }
theorem ok4 (Bl : Blt M) (P : Pr M "book_counts" (stm 4) ["rows"]) (G1 : Gd M 1 "change_of" ["row"] c1) : Gd M 2 "book_counts" ["rows"] c4 := by
  refine P.gd sc_book_counts (by intro _; rfl) fun X B0 F0 D g hp hR hN => ?_
  obtain ⟨bb, rows⟩ := g
  dsimp only [mkΓ, c4] at hp ⊢
  refine ds_own0 (n_lstQ (I) (tab (cn rows) 1) (a_cons d_int a_nil)) (Put.s Put.z) fun l_counts => ⟨_, (Put.s Put.z), ?_⟩
  refine ds_forF (fun i => [("rows", some (Sq bb Rw rows)), ("counts", some (At l_counts)), ("row", none)]) (fun i => [(l_counts, Cl I (tab (cn rows) (i + 1)))]) (i_seq (d_name Has.z)) (by walk_at "fg") rfl ?_ ?_
  · intro B1 hB1 i r hi hr
    refine ⟨_, _, (g_name (Put.s (Put.s Put.z))), ?_⟩
    refine ds_app (d_name (Has.s Has.z)) (d_add (d_ixL (d_name (Has.s Has.z)) (d_neg d_int) (by walk_at "hold")) (d_call0 (t := c1) (r) G1 (Nat.le_of_ble_eq_true rfl) (a_cons (d_name (Has.s (Has.s Has.z))) a_nil) rfl trivial)) (by walk_at "hold") (by walk_at "swp") (by rw [tab_len]; show _ < 16777216; omega) ?_
    exact ds_turnF (by walk_at "fg") (by rw [← cn_succ hr, ← tab_succ]) rfl rfl
  · refine ds_freeze (Upg.s Upg.z) (by walk_at "tak") ?_
    exact ds_ret0 hR (d_name (Has.s Has.z))
end
end K19

set_option maxHeartbeats 2000000
/-! K19b: tolls and losses. -/
namespace K19
open PySem PySem.Spec PyProof.Rows L2 ZZ
open Evl (Ex)
local macro_rules | `(tactic| walk_at "has") => `(tactic| (with_reducible first | exact Has.z | exact Has.s Has.z | exact Has.s (Has.s Has.z) | exact Has.s (Has.s (Has.s Has.z)) | exact Has.s (Has.s (Has.s (Has.s Has.z))) | exact Has.s (Has.s (Has.s (Has.s (Has.s Has.z)))) | exact Has.s (Has.s (Has.s (Has.s (Has.s (Has.s Has.z))))) | exact Has.s (Has.s (Has.s (Has.s (Has.s (Has.s (Has.s Has.z))))))))
local macro_rules | `(tactic| walk_at "put") => `(tactic| (with_reducible first | exact Put.z | exact Put.s Put.z | exact Put.s (Put.s Put.z) | exact Put.s (Put.s (Put.s Put.z)) | exact Put.s (Put.s (Put.s (Put.s Put.z))) | exact Put.s (Put.s (Put.s (Put.s (Put.s Put.z)))) | exact Put.s (Put.s (Put.s (Put.s (Put.s (Put.s Put.z))))) | exact Put.s (Put.s (Put.s (Put.s (Put.s (Put.s (Put.s Put.z))))))))
local macro_rules | `(tactic| walk_at "swp") => `(tactic| (with_reducible first | exact Swp.z | exact Swp.s Swp.z | exact Swp.s (Swp.s Swp.z) | exact Swp.s (Swp.s (Swp.s Swp.z)) | exact Swp.s (Swp.s (Swp.s (Swp.s Swp.z))) | exact Swp.s (Swp.s (Swp.s (Swp.s (Swp.s Swp.z)))) | exact Swp.s (Swp.s (Swp.s (Swp.s (Swp.s (Swp.s Swp.z))))) | exact Swp.s (Swp.s (Swp.s (Swp.s (Swp.s (Swp.s (Swp.s Swp.z))))))))
local macro_rules | `(tactic| walk_at "tak") => `(tactic| (with_reducible first | exact Tak.z | exact Tak.s Tak.z | exact Tak.s (Tak.s Tak.z) | exact Tak.s (Tak.s (Tak.s Tak.z)) | exact Tak.s (Tak.s (Tak.s (Tak.s Tak.z))) | exact Tak.s (Tak.s (Tak.s (Tak.s (Tak.s Tak.z)))) | exact Tak.s (Tak.s (Tak.s (Tak.s (Tak.s (Tak.s Tak.z))))) | exact Tak.s (Tak.s (Tak.s (Tak.s (Tak.s (Tak.s (Tak.s Tak.z))))))))
local macro_rules | `(tactic| walk_at "hold") => `(tactic| (with_reducible first | exact Hold.z | exact Hold.s Hold.z | exact Hold.s (Hold.s Hold.z) | exact Hold.s (Hold.s (Hold.s Hold.z)) | exact Hold.s (Hold.s (Hold.s (Hold.s Hold.z))) | exact Hold.s (Hold.s (Hold.s (Hold.s (Hold.s Hold.z)))) | exact Hold.s (Hold.s (Hold.s (Hold.s (Hold.s (Hold.s Hold.z))))) | exact Hold.s (Hold.s (Hold.s (Hold.s (Hold.s (Hold.s (Hold.s Hold.z))))))))
local macro_rules | `(tactic| walk_at "upe") => `(tactic| (with_reducible first | exact UpE.z | exact UpE.s UpE.z | exact UpE.s (UpE.s UpE.z) | exact UpE.s (UpE.s (UpE.s UpE.z)) | exact UpE.s (UpE.s (UpE.s (UpE.s UpE.z))) | exact UpE.s (UpE.s (UpE.s (UpE.s (UpE.s UpE.z)))) | exact UpE.s (UpE.s (UpE.s (UpE.s (UpE.s (UpE.s UpE.z))))) | exact UpE.s (UpE.s (UpE.s (UpE.s (UpE.s (UpE.s (UpE.s UpE.z))))))))
local macro_rules | `(tactic| walk_at "fg") => `(tactic| (repeat (first | exact Fg.nil | (with_reducible refine Fg.keep rfl ?_) | (with_reducible refine Fg.drop ?_))))
local macro_rules | `(tactic| walk_at "nonb") => `(tactic| first | exact nonb_I | exact nonb_No | exact nonb_Bo | exact nonb_S | exact nonb_seq | exact nonb_tup)

section
variable {M : Mo}
def c5 : Ct (Bool × List Row) := { As := fun g => [Sq g.1 Rw g.2], pre := fun g => g.2.length ≤ 100, S := fun g => L I (tab (T g.2) (g.2.length + 1)) }
theorem ok5 (Bl : Blt M) (P : Pr M "least_tolls" (stm 5) ["rows"]) (G4 : Gd M 2 "book_counts" ["rows"] c4) : Gd M 3 "least_tolls" ["rows"] c5 := by
  refine P.gd sc_least_tolls (by intro _; rfl) fun X B0 F0 D g hp hR hN => ?_
  obtain ⟨bb, rows⟩ := g
  dsimp only [mkΓ, c5] at hp ⊢
  refine ds_asg (d_call0 (t := c4) ((bb, rows)) G4 (Nat.le_of_ble_eq_true rfl) (a_cons (d_name Has.z) a_nil) rfl hp) (Put.s Put.z) ?_
  refine ds_own0 (n_lstQ (I) (tab (T rows) 1) (a_cons d_int a_nil)) (Put.s (Put.s Put.z)) fun l_tolls => ⟨_, (Put.s (Put.s Put.z)), ?_⟩
  refine ds_forF (fun i => ([("rows", some (Sq bb Rw rows)), ("counts", some (L I (tab (cn rows) (rows.length + 1)))), ("tolls", some (At l_tolls)), ("at", none), ("row", none), ("least", none)] : En)) (fun i => [(l_tolls, Cl I (tab (T rows) (i + 1)))]) (i_enum (d_name Has.z) Bl.enumerate) (by walk_at "fg") rfl ?_ ?_
  · rintro B1 hB1 i ⟨_, r⟩ hi ⟨rfl, hr⟩
    refine ⟨_, _, (g_two (g_name (Put.s (Put.s (Put.s Put.z)))) (g_name (Put.s (Put.s (Put.s (Put.s Put.z)))))), ?_⟩
    refine ds_asg (d_ixTO (d_name (Has.s (Has.s Has.z))) (d_name (Has.s (Has.s (Has.s Has.z)))) (by walk_at "hold") (i) (by omega) (by omega)) (Put.s (Put.s (Put.s (Put.s (Put.s Put.z))))) ?_
    refine ds_if (t_eqS (r_tag (d_name (Has.s (Has.s (Has.s (Has.s Has.z))))) d_int) d_str) ?_ ?_
    · intro h
      obtain ⟨a, b, rfl⟩ := tag_seen h
      refine ds_asg (d_max2 (d_name (Has.s (Has.s (Has.s (Has.s (Has.s Has.z)))))) (d_sub (d_ixT (d_name (Has.s Has.z)) (d_add (d_name (Has.s (Has.s (Has.s Has.z)))) d_int) (i + 1) (by omega) (by omega)) (r_a2 (d_name (Has.s (Has.s (Has.s (Has.s Has.z))))) d_int rfl)) Bl.max) (Put.s (Put.s (Put.s (Put.s (Put.s Put.z))))) ?_
      refine ds_next ?_
      refine ds_app (d_name (Has.s (Has.s Has.z))) (d_name (Has.s (Has.s (Has.s (Has.s (Has.s Has.z)))))) (by walk_at "hold") (by walk_at "swp") (by rw [tab_len]; show _ < 16777216; omega) ?_
      exact ds_turnF (by walk_at "fg") (by rw [tab_succ (n := i + 1), T_seen hr]; rfl) rfl rfl
    · intro h
      refine ds_next ?_
      refine ds_app (d_name (Has.s (Has.s Has.z))) (d_name (Has.s (Has.s (Has.s (Has.s (Has.s Has.z)))))) (by walk_at "hold") (by walk_at "swp") (by rw [tab_len]; show _ < 16777216; omega) ?_
      exact ds_turnF (by walk_at "fg") (by rw [tab_succ (n := i + 1), T_other hr (not_seen h)]) rfl rfl
  · refine ds_freeze (Upg.s (Upg.s Upg.z)) (by walk_at "tak") ?_
    exact ds_ret0 hR (d_name (Has.s (Has.s Has.z)))
/-- most after d turns of the second loop -/
def mst (rows : List Row) (d k : Nat) : Int := if rows.length - d ≤ k then U' rows k else K19.M rows k
theorem M_succ {rows : List Row} {i : Nat} {r : Row} (h : rows[i]? = some r) : K19.M rows (i + 1) = min (cn rows i) (cn rows (i + 1)) - r.wb := by simp only [K19.M, h]
theorem U_last {rows : List Row} : U' rows rows.length = K19.M rows rows.length := by simp [U', Ud]
theorem U_prev {rows : List Row} {k : Nat} (h : k < rows.length) : U' rows k = min (K19.M rows k) (U' rows (k + 1)) := by
  obtain ⟨d, hd⟩ : ∃ d, rows.length - k = d + 1 := ⟨rows.length - k - 1, by omega⟩
  unfold U'
  rw [hd, show rows.length - (k + 1) = d by omega]
  show min (K19.M rows (rows.length - (d + 1))) (Ud rows d) = _
  rw [show rows.length - (d + 1) = k by omega]
theorem mst_zero {rows : List Row} : tab (mst rows 0) (rows.length + 1) = tab (K19.M rows) (rows.length + 1) := by
  refine tab_ext fun i hi => ?_
  unfold mst
  split
  · have : i = rows.length := by omega
    subst this
    exact U_last
  · rfl
theorem mst_all {rows : List Row} : tab (mst rows rows.length) (rows.length + 1) = tab (U' rows) (rows.length + 1) := by
  refine tab_ext fun i hi => ?_
  unfold mst
  rw [if_pos (by omega)]
theorem mst_set {rows : List Row} {d j : Nat} (hd : d < rows.length) (hj : j = rows.length - 1 - d) : (tab (mst rows d) (rows.length + 1)).set j (min (mst rows d j) (mst rows d (j + 1))) = tab (mst rows (d + 1)) (rows.length + 1) := by
  rw [tab_set]
  refine tab_ext fun i hi => ?_
  unfold mst
  by_cases e : i = j
  · subst e
    rw [if_pos rfl, if_neg (by omega), if_pos (by omega), if_pos (by omega)]
    exact (U_prev (by omega)).symm
  · rw [if_neg e]
    by_cases q : rows.length - d ≤ i
    · rw [if_pos q, if_pos (by omega)]
    · rw [if_neg q, if_neg (by omega)]
def c6 : Ct (Bool × List Row) := { As := fun g => [Sq g.1 Rw g.2], pre := fun g => g.2.length ≤ 100, S := fun g => L I (tab (U' g.2) (g.2.length + 1)) }
theorem ok6 (Bl : Blt M) (P : Pr M "most_tolls" (stm 6) ["rows"]) (G4 : Gd M 2 "book_counts" ["rows"] c4) (G2 : Gd M 1 "wanted_behind" ["row"] c2) : Gd M 3 "most_tolls" ["rows"] c6 := by
  refine P.gd sc_most_tolls (by intro _; rfl) fun X B0 F0 D g hp hR hN => ?_
  obtain ⟨bb, rows⟩ := g
  dsimp only [mkΓ, c6] at hp ⊢
  refine ds_asg (d_call0 (t := c4) ((bb, rows)) G4 (Nat.le_of_ble_eq_true rfl) (a_cons (d_name Has.z) a_nil) rfl hp) (Put.s Put.z) ?_
  refine ds_own0 (n_lstQ (I) (tab (K19.M rows) 1) (a_cons d_int a_nil)) (Put.s (Put.s Put.z)) fun l_most => ⟨_, (Put.s (Put.s Put.z)), ?_⟩
  refine ds_forF (fun i => ([("rows", some (Sq bb Rw rows)), ("counts", some (L I (tab (cn rows) (rows.length + 1)))), ("most", some (At l_most)), ("at", none), ("row", none)] : En)) (fun i => [(l_most, Cl I (tab (K19.M rows) (i + 1)))]) (i_enum (d_name Has.z) Bl.enumerate) (by walk_at "fg") rfl ?_ ?_
  · rintro B1 hB1 i ⟨_, r⟩ hi ⟨rfl, hr⟩
    refine ⟨_, _, (g_two (g_name (Put.s (Put.s (Put.s Put.z)))) (g_name (Put.s (Put.s (Put.s (Put.s Put.z)))))), ?_⟩
    refine ds_app (d_name (Has.s (Has.s Has.z))) (d_sub (d_min2 (d_ixT (d_name (Has.s Has.z)) (d_name (Has.s (Has.s (Has.s Has.z)))) (i) (by omega) (by omega)) (d_ixT (d_name (Has.s Has.z)) (d_add (d_name (Has.s (Has.s (Has.s Has.z)))) d_int) (i + 1) (by omega) (by omega)) Bl.min) (d_call0 (t := c2) (r) G2 (Nat.le_of_ble_eq_true rfl) (a_cons (d_name (Has.s (Has.s (Has.s (Has.s Has.z))))) a_nil) rfl trivial)) (by walk_at "hold") (by walk_at "swp") (by rw [tab_len]; show _ < 16777216; omega) ?_
    exact ds_turnF (by walk_at "fg") (by rw [tab_succ (n := i + 1), M_succ hr]) rfl rfl
  · refine ds_forF (fun i => ([("rows", some (Sq bb Rw rows)), ("counts", some (L I (tab (cn rows) (rows.length + 1)))), ("most", some (At l_most)), ("at", none), ("row", none)] : En)) (fun d => [(l_most, Cl I (tab (mst rows d) (rows.length + 1)))]) (i_rngD (d_sub (d_len (d_name Has.z) Bl.len) d_int) (d_neg d_int) (d_neg d_int) Bl.range) (by walk_at "fg") (by rw [mst_zero]) ?_ ?_
    · rintro B1 hB1 d _ hd rfl
      have hd : d < rows.length := by omega
      refine ⟨_, _, (g_name (Put.s (Put.s (Put.s Put.z)))), ?_⟩
      refine ds_seti (d_min2 (d_ixTO (d_name (Has.s (Has.s Has.z))) (d_name (Has.s (Has.s (Has.s Has.z)))) (by walk_at "hold") (rows.length - 1 - d) (by omega) (by omega)) (d_ixTO (d_name (Has.s (Has.s Has.z))) (d_add (d_name (Has.s (Has.s (Has.s Has.z)))) d_int) (by walk_at "hold") (rows.length - 1 - d + 1) (by omega) (by omega)) Bl.min) (d_name (Has.s (Has.s Has.z))) (d_name (Has.s (Has.s (Has.s Has.z)))) (xs := tab (mst rows d) (rows.length + 1)) (j := rows.length - 1 - d) (by rw [tab_len]; exact ixN_of (by omega) (by omega)) (by walk_at "swp") ?_
      exact ds_turnF (by walk_at "fg") (by rw [mst_set hd rfl]) rfl rfl
    · have e : ((rows.length : Int) - 1 - -1).toNat = rows.length := by omega
      rw [e, mst_all]
      refine ds_freeze (Upg.s (Upg.s Upg.z)) (by walk_at "tak") ?_
      exact ds_ret0 hR (d_name (Has.s (Has.s Has.z)))
end
end K19

set_option maxHeartbeats 2000000
/-! K19c: are the rows explained, clashes. -/
namespace K19
open PySem PySem.Spec PyProof.Rows L2 ZZ
open Evl (Ex)
local macro_rules | `(tactic| walk_at "has") => `(tactic| (with_reducible first | exact Has.z | exact Has.s Has.z | exact Has.s (Has.s Has.z) | exact Has.s (Has.s (Has.s Has.z)) | exact Has.s (Has.s (Has.s (Has.s Has.z))) | exact Has.s (Has.s (Has.s (Has.s (Has.s Has.z)))) | exact Has.s (Has.s (Has.s (Has.s (Has.s (Has.s Has.z))))) | exact Has.s (Has.s (Has.s (Has.s (Has.s (Has.s (Has.s Has.z))))))))
local macro_rules | `(tactic| walk_at "put") => `(tactic| (with_reducible first | exact Put.z | exact Put.s Put.z | exact Put.s (Put.s Put.z) | exact Put.s (Put.s (Put.s Put.z)) | exact Put.s (Put.s (Put.s (Put.s Put.z))) | exact Put.s (Put.s (Put.s (Put.s (Put.s Put.z)))) | exact Put.s (Put.s (Put.s (Put.s (Put.s (Put.s Put.z))))) | exact Put.s (Put.s (Put.s (Put.s (Put.s (Put.s (Put.s Put.z))))))))
local macro_rules | `(tactic| walk_at "swp") => `(tactic| (with_reducible first | exact Swp.z | exact Swp.s Swp.z | exact Swp.s (Swp.s Swp.z) | exact Swp.s (Swp.s (Swp.s Swp.z)) | exact Swp.s (Swp.s (Swp.s (Swp.s Swp.z))) | exact Swp.s (Swp.s (Swp.s (Swp.s (Swp.s Swp.z)))) | exact Swp.s (Swp.s (Swp.s (Swp.s (Swp.s (Swp.s Swp.z))))) | exact Swp.s (Swp.s (Swp.s (Swp.s (Swp.s (Swp.s (Swp.s Swp.z))))))))
local macro_rules | `(tactic| walk_at "tak") => `(tactic| (with_reducible first | exact Tak.z | exact Tak.s Tak.z | exact Tak.s (Tak.s Tak.z) | exact Tak.s (Tak.s (Tak.s Tak.z)) | exact Tak.s (Tak.s (Tak.s (Tak.s Tak.z))) | exact Tak.s (Tak.s (Tak.s (Tak.s (Tak.s Tak.z)))) | exact Tak.s (Tak.s (Tak.s (Tak.s (Tak.s (Tak.s Tak.z))))) | exact Tak.s (Tak.s (Tak.s (Tak.s (Tak.s (Tak.s (Tak.s Tak.z))))))))
local macro_rules | `(tactic| walk_at "hold") => `(tactic| (with_reducible first | exact Hold.z | exact Hold.s Hold.z | exact Hold.s (Hold.s Hold.z) | exact Hold.s (Hold.s (Hold.s Hold.z)) | exact Hold.s (Hold.s (Hold.s (Hold.s Hold.z))) | exact Hold.s (Hold.s (Hold.s (Hold.s (Hold.s Hold.z)))) | exact Hold.s (Hold.s (Hold.s (Hold.s (Hold.s (Hold.s Hold.z))))) | exact Hold.s (Hold.s (Hold.s (Hold.s (Hold.s (Hold.s (Hold.s Hold.z))))))))
local macro_rules | `(tactic| walk_at "upe") => `(tactic| (with_reducible first | exact UpE.z | exact UpE.s UpE.z | exact UpE.s (UpE.s UpE.z) | exact UpE.s (UpE.s (UpE.s UpE.z)) | exact UpE.s (UpE.s (UpE.s (UpE.s UpE.z))) | exact UpE.s (UpE.s (UpE.s (UpE.s (UpE.s UpE.z)))) | exact UpE.s (UpE.s (UpE.s (UpE.s (UpE.s (UpE.s UpE.z))))) | exact UpE.s (UpE.s (UpE.s (UpE.s (UpE.s (UpE.s (UpE.s UpE.z))))))))
local macro_rules | `(tactic| walk_at "fg") => `(tactic| (repeat (first | exact Fg.nil | (with_reducible refine Fg.keep rfl ?_) | (with_reducible refine Fg.drop ?_))))
local macro_rules | `(tactic| walk_at "nonb") => `(tactic| first | exact nonb_I | exact nonb_No | exact nonb_Bo | exact nonb_S | exact nonb_seq | exact nonb_tup)

section
variable {M : Mo}
def c7 : Ct (Bool × List Row) := { As := fun g => [Sq g.1 Rw g.2], pre := fun g => g.2.length ≤ 100, S := fun g => L I (loss g.2) }
theorem ok7 (Bl : Blt M) (P : Pr M "least_losses" (stm 7) ["rows"]) (G5 : Gd M 3 "least_tolls" ["rows"] c5) : Gd M 4 "least_losses" ["rows"] c7 := by
  refine P.gd sc_least_losses (by intro _; rfl) fun X B0 F0 D g hp hR hN => ?_
  obtain ⟨bb, rows⟩ := g
  dsimp only [mkΓ, c7] at hp ⊢
  refine ds_asg (d_call0 (t := c5) ((bb, rows)) G5 (Nat.le_of_ble_eq_true rfl) (a_cons (d_name Has.z) a_nil) rfl hp) (Put.s Put.z) ?_
  have e1 : cut (tab (T rows) (rows.length + 1)) (some 1) none = (tab (T rows) (rows.length + 1)).drop 1 := cut_drop (k := 1)
  have e2 : min (tab (T rows) (rows.length + 1)).length (cut (tab (T rows) (rows.length + 1)) (some 1) none).length = rows.length := by rw [e1, List.length_drop, tab_len]; omega
  refine ds_ret0 hR (DN.frz (n_lcM (own := [("toll", 2), ("later", 3)]) (Γw := [("rows", _), ("tolls", _), ("toll", none), ("later", none)]) (R := I) (blkOk_by (by show blkC nm_least_losses (defScope (stm 7)) _ _ = true; decide +kernel)) (by repeat constructor) (i_zip (d_name (Has.s Has.z)) (d_sl (d_name (Has.s Has.z)) (o_some d_int) o_none) Bl.zip) (loss rows) (by rw [e2]; exact tab_len) ?_ ?_)) rfl
  · show _ < 16777216
    rw [e2]
    omega
  · rintro i ⟨y1, y2⟩ z ⟨h1, h2⟩ hz
    dsimp only at h1 h2 e1 ⊢
    rw [e1, List.getElem?_drop, show 1 + i = i + 1 from Nat.add_comm 1 i] at h2
    obtain ⟨g1, rfl⟩ := tab_get' hz
    have g1 : i < rows.length := g1
    rw [tab_get (by omega)] at h1 h2
    obtain rfl := Option.some.inj h1
    obtain rfl := Option.some.inj h2
    exact ⟨_, _, (g_two (g_name (Put.s (Put.s Put.z))) (g_name (Put.s (Put.s (Put.s Put.z))))), by simp, (d_sub (d_name (Has.s (Has.s (Has.s Has.z)))) (d_name (Has.s (Has.s Has.z))))⟩
theorem expl_nil {th : Int} {rs : List Row} {ls : List Int} (h : rs = [] ∨ ls = []) : expl th rs ls = true := by
  rcases h with rfl | rfl
  · cases ls <;> rfl
  · cases rs <;> rfl
theorem cap_no {r : Row} {t : Int} : (decide (r.tag = ("seen" : Str)) && decide (r.a2 < t)) = !r.cap t := by
  cases r with
  | inn n => simp only [Row.tag, Row.cap, decide_eq_false ne_is]; rfl
  | out n => simp only [Row.tag, Row.cap, decide_eq_false ne_os]; rfl
  | seen a b =>
    show (decide (("seen" : Str) = "seen") && decide (b < t)) = !decide (t ≤ b)
    by_cases q : t ≤ b
    · rw [decide_eq_true q, decide_eq_false (by omega : ¬ b < t)]; simp
    · rw [decide_eq_false q, decide_eq_true (by omega : b < t)]; simp
def c8 : Ct ((Bool × List Row) × List Int) := { As := fun g => [Sq g.1.1 Rw g.1.2, L I g.2], pre := fun g => g.1.2.length ≤ 100, S := fun g => Bo (expl 0 g.1.2 g.2) }
theorem ok8 (Bl : Blt M) (P : Pr M "are_explained" (stm 8) ["rows", "losses"]) (G1 : Gd M 1 "change_of" ["row"] c1) (G2 : Gd M 1 "wanted_behind" ["row"] c2) : Gd M 2 "are_explained" ["rows", "losses"] c8 := by
  refine P.gd sc_are_explained (by intro _; rfl) fun X B0 F0 D g hp hR hN => ?_
  obtain ⟨⟨bb, rows⟩, ls⟩ := g
  dsimp only [mkΓ, c8] at hp ⊢
  refine ds_asg d_int (Put.s (Put.s Put.z)) ?_
  refine ds_for (fun i Γ ω => ∃ th, expl th (rows.drop i) (ls.drop i) = expl 0 rows ls ∧ Γ = ([("rows", some (Sq bb Rw rows)), ("losses", some (L I ls)), ("there", some (I th)), ("row", none), ("lost", none)] : En) ∧ ω = []) (i_zip (d_name Has.z) (d_name (Has.s Has.z)) Bl.zip) (Γ0 := ([("rows", some (Sq bb Rw rows)), ("losses", some (L I ls)), ("there", some (I 0)), ("row", none), ("lost", none)] : En)) (by walk_at "fg") ⟨0, rfl, rfl, rfl⟩ ?_ ?_
  · rintro B1 hB1 i ⟨r, l⟩ _ _ hi ⟨hr, hl⟩ ⟨th, hth, rfl, rfl⟩ _
    have hR := hR.mono hB1
    refine ⟨_, _, (g_two (g_name (Put.s (Put.s (Put.s Put.z)))) (g_name (Put.s (Put.s (Put.s (Put.s Put.z)))))), ?_⟩
    rw [drop_cons hr, drop_cons hl] at hth
    dsimp only [expl] at hth
    refine ds_if (t_notD (t_chain (fun _ => op_le) (fun _ => op_le) d_int (d_name (Has.s (Has.s (Has.s (Has.s Has.z))))) (d_name (Has.s (Has.s Has.z))))) ?_ ?_
    · intro h
      have hf : expl 0 rows ls = false := by
        rw [← hth]
        revert h
        cases (decide (0 ≤ l) && decide (l ≤ th)) <;> simp
      exact ds_ret0 hR d_bool (congrArg Bo hf.symm)
    · intro h
      refine ds_next ?_
      have h0 : (decide (0 ≤ l) && decide (l ≤ th)) = true := by
        revert h
        cases (decide (0 ≤ l) && decide (l ≤ th)) <;> simp
      rw [h0, Bool.true_and] at hth
      refine ds_asg (d_add (d_sub (d_name (Has.s (Has.s Has.z))) (d_name (Has.s (Has.s (Has.s (Has.s Has.z)))))) (d_call0 (t := c1) (_) G1 (Nat.le_of_ble_eq_true rfl) (a_cons (d_name (Has.s (Has.s (Has.s Has.z)))) a_nil) rfl trivial)) (Put.s (Put.s Put.z)) ?_
      refine ds_if (t_lt (d_name (Has.s (Has.s Has.z))) (d_call0 (t := c2) (_) G2 (Nat.le_of_ble_eq_true rfl) (a_cons (d_name (Has.s (Has.s (Has.s Has.z)))) a_nil) rfl trivial)) ?_ ?_
      · intro h
        have h : th - l + r.ch < r.wb := of_decide_eq_true h.symm
        have hf : expl 0 rows ls = false := by
          rw [← hth, decide_eq_false (by omega)]
          rfl
        exact ds_ret0 hR d_bool (congrArg Bo hf.symm)
      · intro h
        have h : ¬ (th - l + r.ch < r.wb) := of_decide_eq_false h.symm
        rw [decide_eq_true (by omega), Bool.true_and] at hth
        refine ds_next ?_
        refine ds_if (t_w (v_and (t_eqS (r_tag (d_name (Has.s (Has.s (Has.s Has.z)))) d_int) d_str) (fun h1 => (v_and1 (t_gt (d_name (Has.s (Has.s Has.z))) (r_a2 (d_name (Has.s (Has.s (Has.s Has.z)))) d_int (of_decide_eq_true h1))))))) ?_ ?_
        · intro h
          rw [cap_no] at h
          have hf : expl 0 rows ls = false := by
            rw [← hth]
            revert h
            cases Row.cap (th - l + r.ch) r <;> simp
          exact ds_ret0 hR d_bool (congrArg Bo hf.symm)
        · intro h
          rw [cap_no] at h
          refine ds_next ?_
          refine ds_turnJ (Γ1 := ([("rows", some (Sq bb Rw rows)), ("losses", some (L I ls)), ("there", some (I (th - l + r.ch))), ("row", none), ("lost", none)] : En)) (by walk_at "fg") ⟨th - l + r.ch, ?_, rfl, rfl⟩ rfl rfl
          rw [← hth]
          revert h
          cases Row.cap (th - l + r.ch) r <;> simp
  · rintro _ _ ⟨th, hth, rfl, rfl⟩ _
    have hf : expl 0 rows ls = true := by
      rw [← hth]
      refine expl_nil ?_
      rcases Nat.le_total rows.length ls.length with q | q
      · exact .inl (List.drop_eq_nil_of_le (by omega))
      · exact .inr (List.drop_eq_nil_of_le (by omega))
    exact ds_ret0 hR d_bool (congrArg Bo hf.symm)
def c9 : Ct (Bool × List Row) := { As := fun g => [Sq g.1 Rw g.2], pre := fun g => g.2.length ≤ 100, S := fun g => Bo (cb g.2) }
theorem ok9 (P : Pr M "can_be" (stm 9) ["rows"]) (G7 : Gd M 4 "least_losses" ["rows"] c7) (G8 : Gd M 2 "are_explained" ["rows", "losses"] c8) : Gd M 5 "can_be" ["rows"] c9 := by
  refine P.gd sc_can_be (by intro _; rfl) fun X B0 F0 D g hp hR hN => ?_
  obtain ⟨bb, rows⟩ := g
  dsimp only [mkΓ, c9] at hp ⊢
  exact ds_ret0 hR (d_call0 (t := c8) (((bb, rows), loss rows)) G8 (Nat.le_of_ble_eq_true rfl) (a_cons (d_name Has.z) (a_cons (d_call0 (t := c7) ((bb, rows)) G7 (Nat.le_of_ble_eq_true rfl) (a_cons (d_name Has.z) a_nil) rfl hp) a_nil)) rfl hp)
end
end K19

set_option maxHeartbeats 2000000
/-! K19d: clashes, ranges, sure losses. -/
namespace K19
open PySem PySem.Spec PyProof.Rows L2 ZZ
open Evl (Ex)
local macro_rules | `(tactic| walk_at "has") => `(tactic| (with_reducible first | exact Has.z | exact Has.s Has.z | exact Has.s (Has.s Has.z) | exact Has.s (Has.s (Has.s Has.z)) | exact Has.s (Has.s (Has.s (Has.s Has.z))) | exact Has.s (Has.s (Has.s (Has.s (Has.s Has.z)))) | exact Has.s (Has.s (Has.s (Has.s (Has.s (Has.s Has.z))))) | exact Has.s (Has.s (Has.s (Has.s (Has.s (Has.s (Has.s Has.z))))))))
local macro_rules | `(tactic| walk_at "put") => `(tactic| (with_reducible first | exact Put.z | exact Put.s Put.z | exact Put.s (Put.s Put.z) | exact Put.s (Put.s (Put.s Put.z)) | exact Put.s (Put.s (Put.s (Put.s Put.z))) | exact Put.s (Put.s (Put.s (Put.s (Put.s Put.z)))) | exact Put.s (Put.s (Put.s (Put.s (Put.s (Put.s Put.z))))) | exact Put.s (Put.s (Put.s (Put.s (Put.s (Put.s (Put.s Put.z))))))))
local macro_rules | `(tactic| walk_at "swp") => `(tactic| (with_reducible first | exact Swp.z | exact Swp.s Swp.z | exact Swp.s (Swp.s Swp.z) | exact Swp.s (Swp.s (Swp.s Swp.z)) | exact Swp.s (Swp.s (Swp.s (Swp.s Swp.z))) | exact Swp.s (Swp.s (Swp.s (Swp.s (Swp.s Swp.z)))) | exact Swp.s (Swp.s (Swp.s (Swp.s (Swp.s (Swp.s Swp.z))))) | exact Swp.s (Swp.s (Swp.s (Swp.s (Swp.s (Swp.s (Swp.s Swp.z))))))))
local macro_rules | `(tactic| walk_at "tak") => `(tactic| (with_reducible first | exact Tak.z | exact Tak.s Tak.z | exact Tak.s (Tak.s Tak.z) | exact Tak.s (Tak.s (Tak.s Tak.z)) | exact Tak.s (Tak.s (Tak.s (Tak.s Tak.z))) | exact Tak.s (Tak.s (Tak.s (Tak.s (Tak.s Tak.z)))) | exact Tak.s (Tak.s (Tak.s (Tak.s (Tak.s (Tak.s Tak.z))))) | exact Tak.s (Tak.s (Tak.s (Tak.s (Tak.s (Tak.s (Tak.s Tak.z))))))))
local macro_rules | `(tactic| walk_at "hold") => `(tactic| (with_reducible first | exact Hold.z | exact Hold.s Hold.z | exact Hold.s (Hold.s Hold.z) | exact Hold.s (Hold.s (Hold.s Hold.z)) | exact Hold.s (Hold.s (Hold.s (Hold.s Hold.z))) | exact Hold.s (Hold.s (Hold.s (Hold.s (Hold.s Hold.z)))) | exact Hold.s (Hold.s (Hold.s (Hold.s (Hold.s (Hold.s Hold.z))))) | exact Hold.s (Hold.s (Hold.s (Hold.s (Hold.s (Hold.s (Hold.s Hold.z))))))))
local macro_rules | `(tactic| walk_at "upe") => `(tactic| (with_reducible first | exact UpE.z | exact UpE.s UpE.z | exact UpE.s (UpE.s UpE.z) | exact UpE.s (UpE.s (UpE.s UpE.z)) | exact UpE.s (UpE.s (UpE.s (UpE.s UpE.z))) | exact UpE.s (UpE.s (UpE.s (UpE.s (UpE.s UpE.z)))) | exact UpE.s (UpE.s (UpE.s (UpE.s (UpE.s (UpE.s UpE.z))))) | exact UpE.s (UpE.s (UpE.s (UpE.s (UpE.s (UpE.s (UpE.s UpE.z))))))))
local macro_rules | `(tactic| walk_at "fg") => `(tactic| (repeat (first | exact Fg.nil | (with_reducible refine Fg.keep rfl ?_) | (with_reducible refine Fg.drop ?_))))
local macro_rules | `(tactic| walk_at "nonb") => `(tactic| first | exact nonb_I | exact nonb_No | exact nonb_Bo | exact nonb_S | exact nonb_seq | exact nonb_tup)

section
variable {M : Mo}
theorem allS {P : Nat → Prop} {i : Nat} (h : ∀ j, j < i → P j) (h' : P i) : ∀ j, j < i + 1 → P j := fun j hj => by
  rcases Nat.lt_or_ge j i with q | q
  · exact h j q
  · rw [show j = i by omega]; exact h'
/-- what lies there at most behind the sighting before place j -/
def tb (rows : List Row) : Nat → Option Int
  | 0 => some 0
  | j + 1 => match rows[j]? with
    | some (.seen _ b) => some b
    | _ => none
theorem tb_seen {rows : List Row} {j : Nat} {a b : Int} (h : rows[j]? = some (.seen a b)) : tb rows (j + 1) = some b := by simp only [tb, h]
theorem tb_other {rows : List Row} {j : Nat} {r : Row} (h : rows[j]? = some r) (hr : ∀ a b, r ≠ .seen a b) : tb rows (j + 1) = none := by
  cases r with
  | seen a b => exact absurd rfl (hr a b)
  | inn n => simp only [tb, h]
  | out n => simp only [tb, h]
def c10 : Ct ((Bool × List Row) × Nat) := { As := fun g => [Sq g.1.1 Rw g.1.2, I ((g.2 : Int) - 1)], pre := fun g => g.2 ≤ g.1.2.length, S := fun g => Op (tb g.1.2 g.2) }
theorem ok10 (Bl : Blt M) (P : Pr M "top_behind" (stm 10) ["rows", "at"]) : Gd M 1 "top_behind" ["rows", "at"] c10 := by
  refine P.gd sc_top_behind (by intro _; rfl) fun X B0 F0 D g hp hR hN => ?_
  obtain ⟨⟨bb, rows⟩, j⟩ := g
  dsimp only [mkΓ, c10] at hp hR ⊢
  refine ds_if (t_eqI (d_name (Has.s Has.z)) (d_neg d_int)) ?_ ?_
  · intro h
    have h : (j : Int) - 1 = -1 := of_decide_eq_true h.symm
    obtain rfl : j = 0 := by omega
    exact ds_ret0 hR d_int
  · intro h
    have h : ¬ (j : Int) - 1 = -1 := of_decide_eq_false h.symm
    obtain ⟨i, rfl⟩ : ∃ i, j = i + 1 := ⟨j - 1, by omega⟩
    refine ds_next ?_
    obtain ⟨r, hr⟩ : ∃ r, rows[i]? = some r := ⟨_, List.getElem?_eq_getElem (by omega)⟩
    refine ds_if (t_eqS (r_tag (d_ix (d_name Has.z) (d_name (Has.s Has.z)) (atI_of (j := i) (by omega) hr)) d_int) d_str) ?_ ?_
    · intro h
      obtain ⟨a, b, rfl⟩ := tag_seen h
      exact ds_ret0 hR (r_a2 (d_ix (d_name Has.z) (d_name (Has.s Has.z)) (atI_of (j := i) (by omega) hr)) d_int rfl) (congrArg Op (tb_seen hr)).symm
    · intro h
      refine ds_next ?_
      exact ds_ret0 hR d_none (congrArg Op (tb_other hr (not_seen h))).symm
/-- does the sighting before place j clash with place k -/
def clP (rows : List Row) (k j : Nat) : Bool := match tb rows j, rows[k]? with
  | some t, some r => decide (t + cn rows (k + 1) - cn rows j < r.wb)
  | _, _ => false
def ca (rows : List Row) (k : Nat) : Option Nat := fst (clP rows k) (k + 1)
def c11 : Ct ((Bool × List Row) × Nat) := { As := fun g => [Sq g.1.1 Rw g.1.2, I (g.2 : Int)], pre := fun g => g.2 < g.1.2.length ∧ g.1.2.length ≤ 100, S := fun g => Op (Option.map (fun j : Nat => (j : Int) - 1) (ca g.1.2 g.2)) }
theorem ok11 (Bl : Blt M) (P : Pr M "clash_at" (stm 11) ["rows", "k"]) (G4 : Gd M 2 "book_counts" ["rows"] c4) (G2 : Gd M 1 "wanted_behind" ["row"] c2) (G10 : Gd M 1 "top_behind" ["rows", "at"] c10) : Gd M 3 "clash_at" ["rows", "k"] c11 := by
  refine P.gd sc_clash_at (by intro _; rfl) fun X B0 F0 D g hp hR hN => ?_
  obtain ⟨⟨bb, rows⟩, k⟩ := g
  dsimp only [mkΓ, c11] at hp hR ⊢
  obtain ⟨hk, hp⟩ := hp
  obtain ⟨r, hr⟩ : ∃ r, rows[k]? = some r := ⟨_, List.getElem?_eq_getElem hk⟩
  refine ds_asg (d_call0 (t := c4) ((bb, rows)) G4 (Nat.le_of_ble_eq_true rfl) (a_cons (d_name Has.z) a_nil) rfl hp) (Put.s (Put.s Put.z)) ?_
  refine ds_for (fun i Γ ω => (∀ j, j < i → clP rows k j = false) ∧ Γ = ([("rows", some (Sq bb Rw rows)), ("k", some (I (k : Int))), ("counts", some (L I (tab (cn rows) (rows.length + 1)))), ("at", none), ("top", none)] : En) ∧ ω = []) (i_rng2 (d_neg d_int) (d_name (Has.s Has.z)) Bl.range) (Γ0 := ([("rows", some (Sq bb Rw rows)), ("k", some (I (k : Int))), ("counts", some (L I (tab (cn rows) (rows.length + 1)))), ("at", none), ("top", none)] : En)) (by walk_at "fg") ⟨fun j hj => absurd hj (Nat.not_lt_zero j), rfl, rfl⟩ ?_ ?_
  · rintro B1 hB1 i _ _ _ hi rfl ⟨hno, rfl, rfl⟩ _
    have hR := hR.mono hB1
    have hi : i < k + 1 := by omega
    refine ⟨_, _, (g_name (Put.s (Put.s (Put.s Put.z)))), ?_⟩
    refine ds_asg (d_call0 (t := c10) (((bb, rows), i)) G10 (Nat.le_of_ble_eq_true rfl) (a_cons (d_name Has.z) (a_cons (d_name (Has.s (Has.s (Has.s Has.z)))) a_nil)) (by rw [show (-1 + (i : Int)) = (i : Int) - 1 by omega]; rfl) (by show i ≤ rows.length; omega)) (Put.s (Put.s (Put.s (Put.s Put.z)))) ?_
    dsimp only [c10]
    cases ht : tb rows i with
    | none =>
      have hc : clP rows k i = false := by simp only [clP, ht]
      dsimp only [Op]
      refine ds_if (t_w (v_and (l := false) (t_notN (d_name (Has.s (Has.s (Has.s (Has.s Has.z))))) (by walk_at "nonb")) (fun h => absurd h (by decide)))) (fun h => absurd h (by decide)) (fun _ => ds_next ?_)
      exact ds_turnJ (Γ1 := ([("rows", some (Sq bb Rw rows)), ("k", some (I (k : Int))), ("counts", some (L I (tab (cn rows) (rows.length + 1)))), ("at", none), ("top", none)] : En)) (by walk_at "fg") ⟨allS hno (hc), rfl, rfl⟩ rfl rfl
    | some t =>
      have hc : clP rows k i = decide (t + cn rows (k + 1) - cn rows i < r.wb) := by simp only [clP, ht, hr]
      dsimp only [Op]
      refine ds_if (t_w (v_and (t_notN (d_name (Has.s (Has.s (Has.s (Has.s Has.z))))) (by walk_at "nonb")) (fun h1 => (v_and1 (t_lt (d_sub (d_add (d_name (Has.s (Has.s (Has.s (Has.s Has.z))))) (d_ixT (d_name (Has.s (Has.s Has.z))) (d_add (d_name (Has.s Has.z)) d_int) (k + 1) (by omega) (by omega))) (d_ixT (d_name (Has.s (Has.s Has.z))) (d_add (d_name (Has.s (Has.s (Has.s Has.z)))) d_int) (i) (by omega) (by omega))) (d_call0 (t := c2) (r) G2 (Nat.le_of_ble_eq_true rfl) (a_cons (d_ix (d_name Has.z) (d_name (Has.s Has.z)) (atI_of (j := k) rfl hr)) a_nil) rfl trivial)))))) ?_ ?_
      · intro h
        have h : true = decide (t + cn rows (k + 1) - cn rows i < r.wb) := h
        have hf : ca rows k = some i := fst_some hno (hc.trans h.symm) hi
        exact ds_ret0 hR (d_name (Has.s (Has.s (Has.s Has.z)))) (by rw [hf]; show I (-1 + (i : Int)) = I ((i : Int) - 1); rw [show (-1 + (i : Int)) = (i : Int) - 1 by omega])
      · intro h
        have h : false = decide (t + cn rows (k + 1) - cn rows i < r.wb) := h
        refine ds_next ?_
        exact ds_turnJ (Γ1 := ([("rows", some (Sq bb Rw rows)), ("k", some (I (k : Int))), ("counts", some (L I (tab (cn rows) (rows.length + 1)))), ("at", none), ("top", none)] : En)) (by walk_at "fg") ⟨allS hno (hc.trans h.symm), rfl, rfl⟩ rfl rfl
  · rintro _ _ ⟨hno, rfl, rfl⟩ _
    have hf : ca rows k = none := fst_none fun j hj => hno j (by omega)
    exact ds_ret0 hR d_none (by rw [hf]; rfl)
def clP2 (rows : List Row) (k : Nat) : Bool := (ca rows k).isSome
def cl (rows : List Row) : Option (Int × Int) := (fst (clP2 rows) rows.length).bind fun k => Option.map (fun j : Nat => (((j : Int) - 1, (k : Int)) : Int × Int)) (ca rows k)
def c12 : Ct (Bool × List Row) := { As := fun g => [Sq g.1 Rw g.2], pre := fun g => g.2.length ≤ 100, S := fun g => Opp (cl g.2) }
theorem ok12 (Bl : Blt M) (P : Pr M "clash" (stm 12) ["rows"]) (G11 : Gd M 3 "clash_at" ["rows", "k"] c11) : Gd M 4 "clash" ["rows"] c12 := by
  refine P.gd sc_clash (by intro _; rfl) fun X B0 F0 D g hp hR hN => ?_
  obtain ⟨bb, rows⟩ := g
  dsimp only [mkΓ, c12] at hp hR ⊢
  refine ds_for (fun i Γ ω => (∀ j, j < i → clP2 rows j = false) ∧ Γ = ([("rows", some (Sq bb Rw rows)), ("k", none), ("at", none)] : En) ∧ ω = []) (i_rng1 (d_len (d_name Has.z) Bl.len) Bl.range) (Γ0 := ([("rows", some (Sq bb Rw rows)), ("k", none), ("at", none)] : En)) (by walk_at "fg") ⟨fun j hj => absurd hj (Nat.not_lt_zero j), rfl, rfl⟩ ?_ ?_
  · rintro B1 hB1 i _ _ _ hi rfl ⟨hno, rfl, rfl⟩ _
    have hR := hR.mono hB1
    have hi : i < rows.length := by omega
    refine ⟨_, _, (g_name (Put.s Put.z)), ?_⟩
    refine ds_asg (d_call0 (t := c11) (((bb, rows), i)) G11 (Nat.le_of_ble_eq_true rfl) (a_cons (d_name Has.z) (a_cons (d_name (Has.s Has.z)) a_nil)) rfl ⟨hi, hp⟩) (Put.s (Put.s Put.z)) ?_
    dsimp only [c11]
    cases ht : ca rows i with
    | none =>
      dsimp only [Option.map, Op]
      refine ds_if (t_notN (d_name (Has.s (Has.s Has.z))) (by walk_at "nonb")) (fun h => absurd h (by decide)) (fun _ => ds_next ?_)
      exact ds_turnJ (Γ1 := ([("rows", some (Sq bb Rw rows)), ("k", none), ("at", none)] : En)) (by walk_at "fg") ⟨allS hno (by simp only [clP2, ht, Option.isSome]), rfl, rfl⟩ rfl rfl
    | some t =>
      dsimp only [Option.map, Op]
      refine ds_if (t_notN (d_name (Has.s (Has.s Has.z))) (by walk_at "nonb")) (fun h => ?_) (fun h => absurd h (by decide))
      have hf : cl rows = some ((t : Int) - 1, (i : Int)) := by
        unfold cl
        rw [fst_some hno (by simp only [clP2, ht, Option.isSome]) hi]
        simp only [Option.bind, ht, Option.map]
      exact ds_ret0 hR (d_tup (a_cons (d_name (Has.s (Has.s Has.z))) (a_cons (d_name (Has.s Has.z)) a_nil))) (by rw [hf]; rfl)
  · rintro _ _ ⟨hno, rfl, rfl⟩ _
    have hf : cl rows = none := by
      unfold cl
      rw [fst_none fun j hj => hno j (by omega)]
      rfl
    exact ds_ret0 hR d_none (by rw [hf]; rfl)
end
end K19

set_option maxHeartbeats 2000000
/-! K19e: ranges, sure losses. -/
namespace K19
open PySem PySem.Spec PyProof.Rows L2 ZZ
open Evl (Ex)
local macro_rules | `(tactic| walk_at "has") => `(tactic| (with_reducible first | exact Has.z | exact Has.s Has.z | exact Has.s (Has.s Has.z) | exact Has.s (Has.s (Has.s Has.z)) | exact Has.s (Has.s (Has.s (Has.s Has.z))) | exact Has.s (Has.s (Has.s (Has.s (Has.s Has.z)))) | exact Has.s (Has.s (Has.s (Has.s (Has.s (Has.s Has.z))))) | exact Has.s (Has.s (Has.s (Has.s (Has.s (Has.s (Has.s Has.z))))))))
local macro_rules | `(tactic| walk_at "put") => `(tactic| (with_reducible first | exact Put.z | exact Put.s Put.z | exact Put.s (Put.s Put.z) | exact Put.s (Put.s (Put.s Put.z)) | exact Put.s (Put.s (Put.s (Put.s Put.z))) | exact Put.s (Put.s (Put.s (Put.s (Put.s Put.z)))) | exact Put.s (Put.s (Put.s (Put.s (Put.s (Put.s Put.z))))) | exact Put.s (Put.s (Put.s (Put.s (Put.s (Put.s (Put.s Put.z))))))))
local macro_rules | `(tactic| walk_at "swp") => `(tactic| (with_reducible first | exact Swp.z | exact Swp.s Swp.z | exact Swp.s (Swp.s Swp.z) | exact Swp.s (Swp.s (Swp.s Swp.z)) | exact Swp.s (Swp.s (Swp.s (Swp.s Swp.z))) | exact Swp.s (Swp.s (Swp.s (Swp.s (Swp.s Swp.z)))) | exact Swp.s (Swp.s (Swp.s (Swp.s (Swp.s (Swp.s Swp.z))))) | exact Swp.s (Swp.s (Swp.s (Swp.s (Swp.s (Swp.s (Swp.s Swp.z))))))))
local macro_rules | `(tactic| walk_at "tak") => `(tactic| (with_reducible first | exact Tak.z | exact Tak.s Tak.z | exact Tak.s (Tak.s Tak.z) | exact Tak.s (Tak.s (Tak.s Tak.z)) | exact Tak.s (Tak.s (Tak.s (Tak.s Tak.z))) | exact Tak.s (Tak.s (Tak.s (Tak.s (Tak.s Tak.z)))) | exact Tak.s (Tak.s (Tak.s (Tak.s (Tak.s (Tak.s Tak.z))))) | exact Tak.s (Tak.s (Tak.s (Tak.s (Tak.s (Tak.s (Tak.s Tak.z))))))))
local macro_rules | `(tactic| walk_at "hold") => `(tactic| (with_reducible first | exact Hold.z | exact Hold.s Hold.z | exact Hold.s (Hold.s Hold.z) | exact Hold.s (Hold.s (Hold.s Hold.z)) | exact Hold.s (Hold.s (Hold.s (Hold.s Hold.z))) | exact Hold.s (Hold.s (Hold.s (Hold.s (Hold.s Hold.z)))) | exact Hold.s (Hold.s (Hold.s (Hold.s (Hold.s (Hold.s Hold.z))))) | exact Hold.s (Hold.s (Hold.s (Hold.s (Hold.s (Hold.s (Hold.s Hold.z))))))))
local macro_rules | `(tactic| walk_at "upe") => `(tactic| (with_reducible first | exact UpE.z | exact UpE.s UpE.z | exact UpE.s (UpE.s UpE.z) | exact UpE.s (UpE.s (UpE.s UpE.z)) | exact UpE.s (UpE.s (UpE.s (UpE.s UpE.z))) | exact UpE.s (UpE.s (UpE.s (UpE.s (UpE.s UpE.z)))) | exact UpE.s (UpE.s (UpE.s (UpE.s (UpE.s (UpE.s UpE.z))))) | exact UpE.s (UpE.s (UpE.s (UpE.s (UpE.s (UpE.s (UpE.s UpE.z))))))))
local macro_rules | `(tactic| walk_at "fg") => `(tactic| (repeat (first | exact Fg.nil | (with_reducible refine Fg.keep rfl ?_) | (with_reducible refine Fg.drop ?_))))
local macro_rules | `(tactic| walk_at "nonb") => `(tactic| first | exact nonb_I | exact nonb_No | exact nonb_Bo | exact nonb_S | exact nonb_seq | exact nonb_tup)

section
variable {M : Mo}
def c13 : Ct ((Bool × List Row) × (Nat × Nat)) := { As := fun g => [Sq g.1.1 Rw g.1.2, I (g.2.1 : Int), I (g.2.2 : Int)], pre := fun g => g.2.1 ≤ g.2.2 ∧ g.2.2 ≤ g.1.2.length ∧ g.1.2.length ≤ 100, S := fun g => I (max 0 (T g.1.2 g.2.2 - U' g.1.2 g.2.1)) }
theorem ok13 (Bl : Blt M) (P : Pr M "least_lost" (stm 13) ["rows", "j", "k"]) (G5 : Gd M 3 "least_tolls" ["rows"] c5) (G6 : Gd M 3 "most_tolls" ["rows"] c6) : Gd M 4 "least_lost" ["rows", "j", "k"] c13 := by
  refine P.gd sc_least_lost (by intro _; rfl) fun X B0 F0 D g hp hR hN => ?_
  obtain ⟨⟨bb, rows⟩, j, k⟩ := g
  dsimp only [mkΓ, c13] at hp hR ⊢
  obtain ⟨hj, hk, hp⟩ := hp
  exact ds_ret0 hR (d_max2 d_int (d_sub (d_ixT (d_call0 (t := c5) ((bb, rows)) G5 (Nat.le_of_ble_eq_true rfl) (a_cons (d_name Has.z) a_nil) rfl hp) (d_name (Has.s (Has.s Has.z))) k rfl (Nat.lt_succ_of_le hk)) (d_ixT (d_call0 (t := c6) ((bb, rows)) G6 (Nat.le_of_ble_eq_true rfl) (a_cons (d_name Has.z) a_nil) rfl hp) (d_name (Has.s Has.z)) j rfl (Nat.lt_succ_of_le (Nat.le_trans hj hk)))) Bl.max)
def mol (rows : List Row) (j k : Nat) : Int := if j = k then 0 else U' rows k - T rows j
def c14 : Ct ((Bool × List Row) × (Nat × Nat)) := { As := fun g => [Sq g.1.1 Rw g.1.2, I (g.2.1 : Int), I (g.2.2 : Int)], pre := fun g => g.2.1 ≤ g.2.2 ∧ g.2.2 ≤ g.1.2.length ∧ g.1.2.length ≤ 100, S := fun g => I (mol g.1.2 g.2.1 g.2.2) }
theorem ok14 (Bl : Blt M) (P : Pr M "most_lost" (stm 14) ["rows", "j", "k"]) (G5 : Gd M 3 "least_tolls" ["rows"] c5) (G6 : Gd M 3 "most_tolls" ["rows"] c6) : Gd M 4 "most_lost" ["rows", "j", "k"] c14 := by
  refine P.gd sc_most_lost (by intro _; rfl) fun X B0 F0 D g hp hR hN => ?_
  obtain ⟨⟨bb, rows⟩, j, k⟩ := g
  dsimp only [mkΓ, c14] at hp hR ⊢
  obtain ⟨hj, hk, hp⟩ := hp
  refine ds_if (t_eqI (d_name (Has.s Has.z)) (d_name (Has.s (Has.s Has.z)))) ?_ ?_
  · intro h
    have h : (j : Int) = k := of_decide_eq_true h.symm
    exact ds_ret0 hR d_int (congrArg I (by unfold mol; rw [if_pos (by omega)]))
  · intro h
    have h : ¬ (j : Int) = k := of_decide_eq_false h.symm
    refine ds_next ?_
    exact ds_ret0 hR (d_sub (d_ixT (d_call0 (t := c6) ((bb, rows)) G6 (Nat.le_of_ble_eq_true rfl) (a_cons (d_name Has.z) a_nil) rfl hp) (d_name (Has.s (Has.s Has.z))) k rfl (Nat.lt_succ_of_le hk)) (d_ixT (d_call0 (t := c5) ((bb, rows)) G5 (Nat.le_of_ble_eq_true rfl) (a_cons (d_name Has.z) a_nil) rfl hp) (d_name (Has.s Has.z)) j rfl (Nat.lt_succ_of_le (Nat.le_trans hj hk)))) (congrArg I (by unfold mol; rw [if_neg (by omega)]))
def lr (rows : List Row) (j k : Nat) : Option (Int × Int) := if cb rows = true then some (max 0 (T rows k - U' rows j), mol rows j k) else none
def c15 : Ct ((Bool × List Row) × (Nat × Nat)) := { As := fun g => [Sq g.1.1 Rw g.1.2, I (g.2.1 : Int), I (g.2.2 : Int)], pre := fun g => g.2.1 ≤ g.2.2 ∧ g.2.2 ≤ g.1.2.length ∧ g.1.2.length ≤ 100, S := fun g => Opp (lr g.1.2 g.2.1 g.2.2) }
theorem ok15 (Bl : Blt M) (P : Pr M "lost_range" (stm 15) ["rows", "j", "k"]) (G9 : Gd M 5 "can_be" ["rows"] c9) (G13 : Gd M 4 "least_lost" ["rows", "j", "k"] c13) (G14 : Gd M 4 "most_lost" ["rows", "j", "k"] c14) : Gd M 6 "lost_range" ["rows", "j", "k"] c15 := by
  refine P.gd sc_lost_range (by intro _; rfl) fun X B0 F0 D g hp hR hN => ?_
  obtain ⟨⟨bb, rows⟩, j, k⟩ := g
  dsimp only [mkΓ, c15] at hp hR ⊢
  refine ds_if (t_notD (t_val (d_call0 (t := c9) ((bb, rows)) G9 (Nat.le_of_ble_eq_true rfl) (a_cons (d_name Has.z) a_nil) rfl hp.2.2))) ?_ ?_
  · intro h
    have h : cb rows = false := by revert h; show true = !cb rows → _; cases cb rows <;> simp
    exact ds_ret0 hR d_none (by unfold lr; rw [h]; rfl)
  · intro h
    have h : cb rows = true := by revert h; show false = !cb rows → _; cases cb rows <;> simp
    refine ds_next ?_
    exact ds_ret0 hR (d_tup (a_cons (d_call0 (t := c13) (((bb, rows), j, k)) G13 (Nat.le_of_ble_eq_true rfl) (a_cons (d_name Has.z) (a_cons (d_name (Has.s Has.z)) (a_cons (d_name (Has.s (Has.s Has.z))) a_nil))) rfl hp) (a_cons (d_call0 (t := c14) (((bb, rows), j, k)) G14 (Nat.le_of_ble_eq_true rfl) (a_cons (d_name Has.z) (a_cons (d_name (Has.s Has.z)) (a_cons (d_name (Has.s (Has.s Has.z))) a_nil))) rfl hp) a_nil))) (by unfold lr; rw [h]; rfl)
def tr (rows : List Row) (k : Nat) : Option (Int × Int) := if cb rows = true then some (cn rows k - U' rows k, cn rows k - T rows k) else none
def c16 : Ct ((Bool × List Row) × Nat) := { As := fun g => [Sq g.1.1 Rw g.1.2, I (g.2 : Int)], pre := fun g => g.2 ≤ g.1.2.length ∧ g.1.2.length ≤ 100, S := fun g => Opp (tr g.1.2 g.2) }
theorem ok16 (Bl : Blt M) (P : Pr M "there_range" (stm 16) ["rows", "k"]) (G9 : Gd M 5 "can_be" ["rows"] c9) (G3 : Gd M 2 "book_count" ["rows", "k"] c3) (G5 : Gd M 3 "least_tolls" ["rows"] c5) (G6 : Gd M 3 "most_tolls" ["rows"] c6) : Gd M 6 "there_range" ["rows", "k"] c16 := by
  refine P.gd sc_there_range (by intro _; rfl) fun X B0 F0 D g hp hR hN => ?_
  obtain ⟨⟨bb, rows⟩, k⟩ := g
  dsimp only [mkΓ, c16] at hp hR ⊢
  refine ds_if (t_notD (t_val (d_call0 (t := c9) ((bb, rows)) G9 (Nat.le_of_ble_eq_true rfl) (a_cons (d_name Has.z) a_nil) rfl hp.2))) ?_ ?_
  · intro h
    have h : cb rows = false := by revert h; show true = !cb rows → _; cases cb rows <;> simp
    exact ds_ret0 hR d_none (by unfold tr; rw [h]; rfl)
  · intro h
    have h : cb rows = true := by revert h; show false = !cb rows → _; cases cb rows <;> simp
    refine ds_next ?_
    refine ds_asg (d_call0 (t := c3) (((bb, rows), k)) G3 (Nat.le_of_ble_eq_true rfl) (a_cons (d_name Has.z) (a_cons (d_name (Has.s Has.z)) a_nil)) rfl hp.2) (Put.s (Put.s Put.z)) ?_
    exact ds_ret0 hR (d_tup (a_cons (d_sub (d_name (Has.s (Has.s Has.z))) (d_ixT (d_call0 (t := c6) ((bb, rows)) G6 (Nat.le_of_ble_eq_true rfl) (a_cons (d_name Has.z) a_nil) rfl hp.2) (d_name (Has.s Has.z)) k rfl (Nat.lt_succ_of_le hp.1))) (a_cons (d_sub (d_name (Has.s (Has.s Has.z))) (d_ixT (d_call0 (t := c5) ((bb, rows)) G5 (Nat.le_of_ble_eq_true rfl) (a_cons (d_name Has.z) a_nil) rfl hp.2) (d_name (Has.s Has.z)) k rfl (Nat.lt_succ_of_le hp.1))) a_nil))) (by unfold tr; rw [h]; rfl)
/-! ### sure losses -/
def sT (rows : List Row) (j k : Nat) : Bool := decide (U' rows j < T rows k) && (decide (T rows k ≤ U' rows (j + 1)) && decide (T rows (k - 1) ≤ U' rows j))
/-- the pairs of moments j, k with j < k ≤ j + m that answer P -/
def pin (P : Nat → Nat → Bool) (j : Nat) : Nat → List (Int × Int)
  | 0 => []
  | m + 1 => pin P j m ++ (if P j (j + 1 + m) = true then [((j : Int), ((j + 1 + m : Nat) : Int))] else [])
theorem pin_yes {P : Nat → Nat → Bool} {j m : Nat} (h : P j (j + 1 + m) = true) : pin P j (m + 1) = pin P j m ++ [((j : Int), ((j + 1 + m : Nat) : Int))] := by conv => lhs; unfold pin; rw [if_pos h]
theorem pin_no {P : Nat → Nat → Bool} {j m : Nat} (h : P j (j + 1 + m) = false) : pin P j (m + 1) = pin P j m := by conv => lhs; unfold pin; rw [h]; simp
def pout (P : Nat → Nat → Bool) (n : Nat) : Nat → List (Int × Int)
  | 0 => []
  | j + 1 => pout P n j ++ pin P j (n - j)
theorem pin_len {P : Nat → Nat → Bool} {j : Nat} : ∀ {m : Nat}, (pin P j m).length ≤ m
  | 0 => Nat.le_refl _
  | m + 1 => by
    have := pin_len (P := P) (j := j) (m := m)
    unfold pin
    rw [List.length_append]
    split <;> simp <;> omega
theorem pout_len {P : Nat → Nat → Bool} {n : Nat} : ∀ {j : Nat}, (pout P n j).length ≤ j * n
  | 0 => by simp [pout]
  | j + 1 => by
    have h1 := pout_len (P := P) (n := n) (j := j)
    have h2 := pin_len (P := P) (j := j) (m := n - j)
    unfold pout
    rw [List.length_append, Nat.add_mul]
    omega
def sl (rows : List Row) : List (Int × Int) := if cb rows = true then pout (sT rows) rows.length rows.length else []
def c17 : Ct (Bool × List Row) := { As := fun g => [Sq g.1 Rw g.2], pre := fun g => g.2.length ≤ 100, S := fun g => Sq false P2 (sl g.2) }
theorem ok17 (Bl : Blt M) (P : Pr M "sure_losses" (stm 17) ["rows"]) (G9 : Gd M 5 "can_be" ["rows"] c9) (G5 : Gd M 3 "least_tolls" ["rows"] c5) (G6 : Gd M 3 "most_tolls" ["rows"] c6) : Gd M 6 "sure_losses" ["rows"] c17 := by
  refine P.gd sc_sure_losses (by intro _; rfl) fun X B0 F0 D g hp hR hN => ?_
  obtain ⟨bb, rows⟩ := g
  dsimp only [mkΓ, c17] at hp hR ⊢
  refine ds_if (t_notD (t_val (d_call0 (t := c9) ((bb, rows)) G9 (Nat.le_of_ble_eq_true rfl) (a_cons (d_name Has.z) a_nil) rfl hp))) ?_ ?_
  · intro h
    have h : cb rows = false := by revert h; show true = !cb rows → _; cases cb rows <;> simp
    exact ds_ret (ωo := []) hR (d_tup a_nil) (by unfold sl; rw [h]; exact sle_tup (xs := []))
  · intro h
    have h : cb rows = true := by revert h; show false = !cb rows → _; cases cb rows <;> simp
    refine ds_next ?_
    refine ds_par (a_cons (d_call0 (t := c5) ((bb, rows)) G5 (Nat.le_of_ble_eq_true rfl) (a_cons (d_name Has.z) a_nil) rfl hp) (a_cons (d_call0 (t := c6) ((bb, rows)) G6 (Nat.le_of_ble_eq_true rfl) (a_cons (d_name Has.z) a_nil) rfl hp) a_nil)) (Put.s (Put.s (Put.s Put.z))) (Put.s (Put.s (Put.s (Put.s Put.z)))) ?_
    refine ds_own0 (n_lstQ (P2) ([]) a_nil) (Put.s Put.z) fun l_pairs => ⟨_, (Put.s Put.z), ?_⟩
    refine ds_forF (fun j => ([("rows", some (Sq bb Rw rows)), ("pairs", some (At l_pairs)), ("j", none), ("least", some (L I (tab (T rows) (rows.length + 1)))), ("most", some (L I (tab (U' rows) (rows.length + 1)))), ("k", none)] : En)) (fun j => [(l_pairs, Cl P2 (pout (sT rows) rows.length j))]) (i_rng1 (d_len (d_name Has.z) Bl.len) Bl.range) (by walk_at "fg") rfl ?_ ?_
    · rintro B1 hB1 j _ hj rfl
      have hj : j < rows.length := by omega
      refine ⟨_, _, (g_name (Put.s (Put.s Put.z))), ?_⟩
      refine ds_forF (fun m => ([("rows", some (Sq bb Rw rows)), ("pairs", some (At l_pairs)), ("j", some (I (j : Int))), ("least", some (L I (tab (T rows) (rows.length + 1)))), ("most", some (L I (tab (U' rows) (rows.length + 1)))), ("k", none)] : En)) (fun m => [(l_pairs, Cl P2 (pout (sT rows) rows.length j ++ pin (sT rows) j m))]) (i_rng2 (d_add (d_name (Has.s (Has.s Has.z))) d_int) (d_add (d_len (d_name Has.z) Bl.len) d_int) Bl.range) (by walk_at "fg") (by unfold pin; rw [List.append_nil]) ?_ ?_
      · rintro B2 hB2 m _ hm rfl
        have hm : j + 1 + m ≤ rows.length := by omega
        have hl1 := pout_len (P := sT rows) (n := rows.length) (j := j)
        have hl2 := pin_len (P := sT rows) (j := j) (m := m)
        have hl3 : j * rows.length ≤ 100 * 100 := Nat.mul_le_mul (by omega) hp
        refine ⟨_, _, (g_name (Put.s (Put.s (Put.s (Put.s (Put.s Put.z)))))), ?_⟩
        refine ds_if (t_w (v_and (t_gt (d_ixT (d_name (Has.s (Has.s (Has.s Has.z)))) (d_name (Has.s (Has.s (Has.s (Has.s (Has.s Has.z)))))) (j + 1 + m) (by omega) (by omega)) (d_ixT (d_name (Has.s (Has.s (Has.s (Has.s Has.z))))) (d_name (Has.s (Has.s Has.z))) (j) (by omega) (by omega))) (fun h1 => (v_and (t_le (d_ixT (d_name (Has.s (Has.s (Has.s Has.z)))) (d_name (Has.s (Has.s (Has.s (Has.s (Has.s Has.z)))))) (j + 1 + m) (by omega) (by omega)) (d_ixT (d_name (Has.s (Has.s (Has.s (Has.s Has.z))))) (d_add (d_name (Has.s (Has.s Has.z))) d_int) (j + 1) (by omega) (by omega))) (fun h2 => (v_and1 (t_le (d_ixT (d_name (Has.s (Has.s (Has.s Has.z)))) (d_sub (d_name (Has.s (Has.s (Has.s (Has.s (Has.s Has.z)))))) d_int) (j + 1 + m - 1) (by omega) (by omega)) (d_ixT (d_name (Has.s (Has.s (Has.s (Has.s Has.z))))) (d_name (Has.s (Has.s Has.z))) (j) (by omega) (by omega))))))))) ?_ ?_
        · intro h
          have h : sT rows j (j + 1 + m) = true := h.symm
          refine ds_appQ (P2) (((j : Int), ((j + 1 + m : Nat) : Int))) (d_name (Has.s Has.z)) (d_tup (a_cons (d_name (Has.s (Has.s Has.z))) (a_cons (d_name (Has.s (Has.s (Has.s (Has.s (Has.s Has.z)))))) a_nil))) rfl (by walk_at "hold") (by walk_at "swp") (by rw [List.length_append]; show _ < 16777216; omega) ?_
          refine ds_next ?_
          exact ds_turnF (by walk_at "fg") (by rw [List.append_assoc, pin_yes h]) rfl rfl
        · intro h
          have h : sT rows j (j + 1 + m) = false := h.symm
          refine ds_next ?_
          exact ds_turnF (by walk_at "fg") (by rw [pin_no h]) rfl rfl
      · have e : ((rows.length : Int) + 1 - ((j : Int) + 1)).toNat = rows.length - j := by omega
        rw [e]
        exact ds_turnF (by walk_at "fg") rfl rfl rfl
    · refine ds_freeze (Upg.s Upg.z) (by walk_at "tak") ?_
      exact ds_ret0 hR (d_tuple (d_name (Has.s Has.z)) Bl.tuple) (by unfold sl; rw [h]; rfl)
end
end K19

set_option maxHeartbeats 2000000
/-! K19f: the law's own readings. -/
namespace K19
open PySem PySem.Spec PyProof.Rows L2 ZZ
open Evl (Ex)
local macro_rules | `(tactic| walk_at "has") => `(tactic| (with_reducible first | exact Has.z | exact Has.s Has.z | exact Has.s (Has.s Has.z) | exact Has.s (Has.s (Has.s Has.z)) | exact Has.s (Has.s (Has.s (Has.s Has.z))) | exact Has.s (Has.s (Has.s (Has.s (Has.s Has.z)))) | exact Has.s (Has.s (Has.s (Has.s (Has.s (Has.s Has.z))))) | exact Has.s (Has.s (Has.s (Has.s (Has.s (Has.s (Has.s Has.z))))))))
local macro_rules | `(tactic| walk_at "put") => `(tactic| (with_reducible first | exact Put.z | exact Put.s Put.z | exact Put.s (Put.s Put.z) | exact Put.s (Put.s (Put.s Put.z)) | exact Put.s (Put.s (Put.s (Put.s Put.z))) | exact Put.s (Put.s (Put.s (Put.s (Put.s Put.z)))) | exact Put.s (Put.s (Put.s (Put.s (Put.s (Put.s Put.z))))) | exact Put.s (Put.s (Put.s (Put.s (Put.s (Put.s (Put.s Put.z))))))))
local macro_rules | `(tactic| walk_at "swp") => `(tactic| (with_reducible first | exact Swp.z | exact Swp.s Swp.z | exact Swp.s (Swp.s Swp.z) | exact Swp.s (Swp.s (Swp.s Swp.z)) | exact Swp.s (Swp.s (Swp.s (Swp.s Swp.z))) | exact Swp.s (Swp.s (Swp.s (Swp.s (Swp.s Swp.z)))) | exact Swp.s (Swp.s (Swp.s (Swp.s (Swp.s (Swp.s Swp.z))))) | exact Swp.s (Swp.s (Swp.s (Swp.s (Swp.s (Swp.s (Swp.s Swp.z))))))))
local macro_rules | `(tactic| walk_at "tak") => `(tactic| (with_reducible first | exact Tak.z | exact Tak.s Tak.z | exact Tak.s (Tak.s Tak.z) | exact Tak.s (Tak.s (Tak.s Tak.z)) | exact Tak.s (Tak.s (Tak.s (Tak.s Tak.z))) | exact Tak.s (Tak.s (Tak.s (Tak.s (Tak.s Tak.z)))) | exact Tak.s (Tak.s (Tak.s (Tak.s (Tak.s (Tak.s Tak.z))))) | exact Tak.s (Tak.s (Tak.s (Tak.s (Tak.s (Tak.s (Tak.s Tak.z))))))))
local macro_rules | `(tactic| walk_at "hold") => `(tactic| (with_reducible first | exact Hold.z | exact Hold.s Hold.z | exact Hold.s (Hold.s Hold.z) | exact Hold.s (Hold.s (Hold.s Hold.z)) | exact Hold.s (Hold.s (Hold.s (Hold.s Hold.z))) | exact Hold.s (Hold.s (Hold.s (Hold.s (Hold.s Hold.z)))) | exact Hold.s (Hold.s (Hold.s (Hold.s (Hold.s (Hold.s Hold.z))))) | exact Hold.s (Hold.s (Hold.s (Hold.s (Hold.s (Hold.s (Hold.s Hold.z))))))))
local macro_rules | `(tactic| walk_at "upe") => `(tactic| (with_reducible first | exact UpE.z | exact UpE.s UpE.z | exact UpE.s (UpE.s UpE.z) | exact UpE.s (UpE.s (UpE.s UpE.z)) | exact UpE.s (UpE.s (UpE.s (UpE.s UpE.z))) | exact UpE.s (UpE.s (UpE.s (UpE.s (UpE.s UpE.z)))) | exact UpE.s (UpE.s (UpE.s (UpE.s (UpE.s (UpE.s UpE.z))))) | exact UpE.s (UpE.s (UpE.s (UpE.s (UpE.s (UpE.s (UpE.s UpE.z))))))))
local macro_rules | `(tactic| walk_at "fg") => `(tactic| (repeat (first | exact Fg.nil | (with_reducible refine Fg.keep rfl ?_) | (with_reducible refine Fg.drop ?_))))
local macro_rules | `(tactic| walk_at "nonb") => `(tactic| first | exact nonb_I | exact nonb_No | exact nonb_Bo | exact nonb_S | exact nonb_seq | exact nonb_tup)

section
variable {M : Mo}
theorem y_in {n : Int} : decide ((Row.inn n).tag = ("in" : Str)) = true := decide_eq_true rfl
theorem y_out {n : Int} : decide ((Row.out n).tag = ("out" : Str)) = true := decide_eq_true rfl
theorem y_seen {a b : Int} : decide ((Row.seen a b).tag = ("seen" : Str)) = true := decide_eq_true rfl
theorem n_io {n : Int} : decide ((Row.inn n).tag = ("out" : Str)) = false := decide_eq_false ne_io
theorem n_is {n : Int} : decide ((Row.inn n).tag = ("seen" : Str)) = false := decide_eq_false ne_is
theorem n_oi {n : Int} : decide ((Row.out n).tag = ("in" : Str)) = false := decide_eq_false ne_oi
theorem n_os {n : Int} : decide ((Row.out n).tag = ("seen" : Str)) = false := decide_eq_false ne_os
theorem n_si {a b : Int} : decide ((Row.seen a b).tag = ("in" : Str)) = false := decide_eq_false ne_si
theorem n_so {a b : Int} : decide ((Row.seen a b).tag = ("out" : Str)) = false := decide_eq_false ne_so
def f1 : Ct (List Row × (Nat × Nat)) := { As := fun g => [L Rw g.1, I (g.2.1 : Int), I (g.2.2 : Int)], pre := fun g => g.2.1 ≤ g.2.2 ∧ g.2.2 ≤ g.1.length, S := fun g => I (cn g.1 g.2.2 - cn g.1 g.2.1) }
theorem mid_get {rows : List Row} {j k i : Nat} {r : Row} (h : ((rows.take k).drop j)[i]? = some r) : rows[j + i]? = some r ∧ j + i < k := by
  rw [List.getElem?_drop] at h
  have h1 : j + i < (rows.take k).length := (List.getElem?_eq_some_iff.mp h).1
  have h2 : j + i < k := by rw [List.length_take] at h1; omega
  rw [List.getElem?_take_of_lt h2] at h
  exact ⟨h, h2⟩
theorem okf1 (Bl : Blt M) (P : Pr M "_law_moved" (stm 23) ["rows", "j", "k"]) : Gd M 1 "_law_moved" ["rows", "j", "k"] f1 := by
  refine P.gd sc__law_moved (by intro _; rfl) fun X B0 F0 D g hp hR hN => ?_
  obtain ⟨rows, j, k⟩ := g
  dsimp only [mkΓ, f1] at hp hR ⊢
  refine ds_asg d_int (Put.s (Put.s (Put.s Put.z))) ?_
  have e1 : cut rows (some (j : Int)) (some (k : Int)) = (rows.take k).drop j := cut_both hp.1
  refine ds_forF (fun i => ([("rows", some (L Rw rows)), ("j", some (I (j : Int))), ("k", some (I (k : Int))), ("total", some (I (cn rows (j + i) - cn rows j))), ("row", none)] : En)) (fun i => []) (i_seq (d_sl (d_name Has.z) (o_some (d_name (Has.s Has.z))) (o_some (d_name (Has.s (Has.s Has.z)))))) (by rw [show (0 : Int) = cn rows (j + 0) - cn rows j by rw [Nat.add_zero]; omega]; walk_at "fg") rfl ?_ ?_
  · rintro B1 hB1 i r hi hr
    rw [e1] at hr
    obtain ⟨hr, _⟩ := mid_get hr
    have hc := cn_succ hr
    refine ⟨_, _, (g_name (Put.s (Put.s (Put.s (Put.s Put.z))))), ?_⟩
    cases r with
    | inn n =>
      refine ds_ifT (t_eqS (r_tag (d_name (Has.s (Has.s (Has.s (Has.s Has.z))))) d_int) d_str) y_in ?_
      refine ds_asg (d_add (d_name (Has.s (Has.s (Has.s Has.z)))) (r_a1 (d_name (Has.s (Has.s (Has.s (Has.s Has.z))))) d_int)) (Put.s (Put.s (Put.s Put.z))) ?_
      refine ds_next ?_
      refine ds_ifF (t_eqS (r_tag (d_name (Has.s (Has.s (Has.s (Has.s Has.z))))) d_int) d_str) n_io (ds_next ?_)
      exact ds_turnF (by rw [show cn rows (j + i) - cn rows j + (Row.inn n).a1 = cn rows (j + (i + 1)) - cn rows j by rw [← Nat.add_assoc, hc]; show _ + n = _ + n - _; omega]; walk_at "fg") rfl rfl rfl
    | out n =>
      refine ds_ifF (t_eqS (r_tag (d_name (Has.s (Has.s (Has.s (Has.s Has.z))))) d_int) d_str) n_oi (ds_next ?_)
      refine ds_ifT (t_eqS (r_tag (d_name (Has.s (Has.s (Has.s (Has.s Has.z))))) d_int) d_str) y_out ?_
      refine ds_asg (d_sub (d_name (Has.s (Has.s (Has.s Has.z)))) (r_a1 (d_name (Has.s (Has.s (Has.s (Has.s Has.z))))) d_int)) (Put.s (Put.s (Put.s Put.z))) ?_
      refine ds_next ?_
      exact ds_turnF (by rw [show cn rows (j + i) - cn rows j - (Row.out n).a1 = cn rows (j + (i + 1)) - cn rows j by rw [← Nat.add_assoc, hc]; show _ - n = _ + -n - _; omega]; walk_at "fg") rfl rfl rfl
    | seen a b =>
      refine ds_ifF (t_eqS (r_tag (d_name (Has.s (Has.s (Has.s (Has.s Has.z))))) d_int) d_str) n_si (ds_next ?_)
      refine ds_ifF (t_eqS (r_tag (d_name (Has.s (Has.s (Has.s (Has.s Has.z))))) d_int) d_str) n_so (ds_next ?_)
      exact ds_turnF (by rw [show cn rows (j + i) - cn rows j = cn rows (j + (i + 1)) - cn rows j by rw [← Nat.add_assoc, hc]; show _ = _ + 0 - _; omega]; walk_at "fg") rfl rfl rfl
  · rw [e1, show j + ((rows.take k).drop j).length = k by simp; omega]
    exact ds_ret0 hR (d_name (Has.s (Has.s (Has.s Has.z))))
def f2 : Ct (List Row) := { As := fun g => [L Rw g], pre := fun g => g.length ≤ 100, S := fun g => L I (tab (K19.top g) (bad g + 1)) }
theorem okf2 (Bl : Blt M) (P : Pr M "_law_tops" (stm 24) ["rows"]) : Gd M 1 "_law_tops" ["rows"] f2 := by
  refine P.gd sc__law_tops (by intro _; rfl) fun X B0 F0 D rows hp hR hN => ?_
  dsimp only [mkΓ, f2] at hp hR ⊢
  refine ds_own0 (n_lstQ (I) (tab (K19.top rows) 1) (a_cons d_int a_nil)) (Put.s Put.z) fun l_tops => ⟨_, (Put.s Put.z), ?_⟩
  refine ds_for (fun i Γ ω => (∀ j, j < i → ok rows j = true) ∧ Γ = ([("rows", some (L Rw rows)), ("tops", some (At l_tops)), ("row", none), ("most", none)] : En) ∧ ω = [(l_tops, Cl I (tab (K19.top rows) (i + 1)))]) (i_seq (d_name Has.z)) (Γ0 := ([("rows", some (L Rw rows)), ("tops", some (At l_tops)), ("row", none), ("most", none)] : En)) (by walk_at "fg") ⟨fun j hj => absurd hj (Nat.not_lt_zero j), rfl, rfl⟩ ?_ ?_
  · rintro B1 hB1 i r _ _ hi hr ⟨hno, rfl, rfl⟩ _
    have hR := hR.mono hB1
    refine ⟨_, _, (g_name (Put.s (Put.s Put.z))), ?_⟩
    refine ds_asg (d_ixL (d_name (Has.s Has.z)) (d_neg d_int) (by walk_at "hold")) (Put.s (Put.s (Put.s Put.z))) ?_
    have hs := top_succ hr
    have hok : ok rows i = r.okAt (K19.top rows i) := by unfold ok; rw [hr]
    cases r with
    | inn n =>
      refine ds_ifT (t_eqS (r_tag (d_name (Has.s (Has.s Has.z))) d_int) d_str) y_in ?_
      refine ds_app (d_name (Has.s Has.z)) (d_add (d_name (Has.s (Has.s (Has.s Has.z)))) (r_a1 (d_name (Has.s (Has.s Has.z))) d_int)) (by walk_at "hold") (by walk_at "swp") (by rw [tab_len]; show _ < 16777216; omega) ?_
      refine ds_next ?_
      exact ds_turnJ (Γ1 := ([("rows", some (L Rw rows)), ("tops", some (At l_tops)), ("row", none), ("most", none)] : En)) (by walk_at "fg") ⟨allS hno hok, rfl, by rw [tab_succ (n := i + 1), hs]; rfl⟩ rfl rfl
    | out n =>
      refine ds_ifF (t_eqS (r_tag (d_name (Has.s (Has.s Has.z))) d_int) d_str) n_oi ?_
      refine ds_if (t_lt (d_name (Has.s (Has.s (Has.s Has.z)))) (r_a1 (d_name (Has.s (Has.s Has.z))) d_int)) ?_ ?_
      · intro h
        have h : K19.top rows i < n := of_decide_eq_true h.symm
        have hb : bad rows = i := bad_eq hno (by rw [hok]; show decide (n ≤ K19.top rows i) = false; exact decide_eq_false (by omega)) hi
        refine ds_freeze (Upg.s Upg.z) (by walk_at "tak") ?_
        exact ds_ret0 hR (d_name (Has.s Has.z)) (by rw [hb])
      · intro h
        have h : ¬ K19.top rows i < n := of_decide_eq_false h.symm
        refine ds_ifT (t_eqS (r_tag (d_name (Has.s (Has.s Has.z))) d_int) d_str) y_out ?_
        refine ds_app (d_name (Has.s Has.z)) (d_sub (d_name (Has.s (Has.s (Has.s Has.z)))) (r_a1 (d_name (Has.s (Has.s Has.z))) d_int)) (by walk_at "hold") (by walk_at "swp") (by rw [tab_len]; show _ < 16777216; omega) ?_
        refine ds_next (ds_next (ds_next ?_))
        exact ds_turnJ (Γ1 := ([("rows", some (L Rw rows)), ("tops", some (At l_tops)), ("row", none), ("most", none)] : En)) (by walk_at "fg") ⟨allS hno (by rw [hok]; show decide (n ≤ K19.top rows i) = true; exact decide_eq_true (by omega)), rfl, by rw [tab_succ (n := i + 1), hs]; rfl⟩ rfl rfl
    | seen a b =>
      refine ds_ifF (t_eqS (r_tag (d_name (Has.s (Has.s Has.z))) d_int) d_str) n_si ?_
      refine ds_if (t_lt (d_name (Has.s (Has.s (Has.s Has.z)))) (r_a1 (d_name (Has.s (Has.s Has.z))) d_int)) ?_ ?_
      · intro h
        have h : K19.top rows i < a := of_decide_eq_true h.symm
        have hb : bad rows = i := bad_eq hno (by rw [hok]; show decide (a ≤ K19.top rows i) = false; exact decide_eq_false (by omega)) hi
        refine ds_freeze (Upg.s Upg.z) (by walk_at "tak") ?_
        exact ds_ret0 hR (d_name (Has.s Has.z)) (by rw [hb])
      · intro h
        have h : ¬ K19.top rows i < a := of_decide_eq_false h.symm
        refine ds_ifF (t_eqS (r_tag (d_name (Has.s (Has.s Has.z))) d_int) d_str) n_so ?_
        refine ds_app (d_name (Has.s Has.z)) (d_min2 (d_name (Has.s (Has.s (Has.s Has.z)))) (r_a2 (d_name (Has.s (Has.s Has.z))) d_int rfl) Bl.min) (by walk_at "hold") (by walk_at "swp") (by rw [tab_len]; show _ < 16777216; omega) ?_
        refine ds_next (ds_next (ds_next ?_))
        exact ds_turnJ (Γ1 := ([("rows", some (L Rw rows)), ("tops", some (At l_tops)), ("row", none), ("most", none)] : En)) (by walk_at "fg") ⟨allS hno (by rw [hok]; show decide (a ≤ K19.top rows i) = true; exact decide_eq_true (by omega)), rfl, by rw [tab_succ (n := i + 1), hs]; rfl⟩ rfl rfl
  · rintro _ _ ⟨hno, rfl, rfl⟩ _
    refine ds_freeze (Upg.s Upg.z) (by walk_at "tak") ?_
    exact ds_ret0 hR (d_name (Has.s Has.z)) (by rw [bad_all hno])
end
end K19

set_option maxHeartbeats 2000000
/-! K19g: the law's lows, clash, lost and sure. -/
namespace K19
open PySem PySem.Spec PyProof.Rows L2 ZZ
open Evl (Ex)
local macro_rules | `(tactic| walk_at "has") => `(tactic| (with_reducible first | exact Has.z | exact Has.s Has.z | exact Has.s (Has.s Has.z) | exact Has.s (Has.s (Has.s Has.z)) | exact Has.s (Has.s (Has.s (Has.s Has.z))) | exact Has.s (Has.s (Has.s (Has.s (Has.s Has.z)))) | exact Has.s (Has.s (Has.s (Has.s (Has.s (Has.s Has.z))))) | exact Has.s (Has.s (Has.s (Has.s (Has.s (Has.s (Has.s Has.z))))))))
local macro_rules | `(tactic| walk_at "put") => `(tactic| (with_reducible first | exact Put.z | exact Put.s Put.z | exact Put.s (Put.s Put.z) | exact Put.s (Put.s (Put.s Put.z)) | exact Put.s (Put.s (Put.s (Put.s Put.z))) | exact Put.s (Put.s (Put.s (Put.s (Put.s Put.z)))) | exact Put.s (Put.s (Put.s (Put.s (Put.s (Put.s Put.z))))) | exact Put.s (Put.s (Put.s (Put.s (Put.s (Put.s (Put.s Put.z))))))))
local macro_rules | `(tactic| walk_at "swp") => `(tactic| (with_reducible first | exact Swp.z | exact Swp.s Swp.z | exact Swp.s (Swp.s Swp.z) | exact Swp.s (Swp.s (Swp.s Swp.z)) | exact Swp.s (Swp.s (Swp.s (Swp.s Swp.z))) | exact Swp.s (Swp.s (Swp.s (Swp.s (Swp.s Swp.z)))) | exact Swp.s (Swp.s (Swp.s (Swp.s (Swp.s (Swp.s Swp.z))))) | exact Swp.s (Swp.s (Swp.s (Swp.s (Swp.s (Swp.s (Swp.s Swp.z))))))))
local macro_rules | `(tactic| walk_at "tak") => `(tactic| (with_reducible first | exact Tak.z | exact Tak.s Tak.z | exact Tak.s (Tak.s Tak.z) | exact Tak.s (Tak.s (Tak.s Tak.z)) | exact Tak.s (Tak.s (Tak.s (Tak.s Tak.z))) | exact Tak.s (Tak.s (Tak.s (Tak.s (Tak.s Tak.z)))) | exact Tak.s (Tak.s (Tak.s (Tak.s (Tak.s (Tak.s Tak.z))))) | exact Tak.s (Tak.s (Tak.s (Tak.s (Tak.s (Tak.s (Tak.s Tak.z))))))))
local macro_rules | `(tactic| walk_at "hold") => `(tactic| (with_reducible first | exact Hold.z | exact Hold.s Hold.z | exact Hold.s (Hold.s Hold.z) | exact Hold.s (Hold.s (Hold.s Hold.z)) | exact Hold.s (Hold.s (Hold.s (Hold.s Hold.z))) | exact Hold.s (Hold.s (Hold.s (Hold.s (Hold.s Hold.z)))) | exact Hold.s (Hold.s (Hold.s (Hold.s (Hold.s (Hold.s Hold.z))))) | exact Hold.s (Hold.s (Hold.s (Hold.s (Hold.s (Hold.s (Hold.s Hold.z))))))))
local macro_rules | `(tactic| walk_at "upe") => `(tactic| (with_reducible first | exact UpE.z | exact UpE.s UpE.z | exact UpE.s (UpE.s UpE.z) | exact UpE.s (UpE.s (UpE.s UpE.z)) | exact UpE.s (UpE.s (UpE.s (UpE.s UpE.z))) | exact UpE.s (UpE.s (UpE.s (UpE.s (UpE.s UpE.z)))) | exact UpE.s (UpE.s (UpE.s (UpE.s (UpE.s (UpE.s UpE.z))))) | exact UpE.s (UpE.s (UpE.s (UpE.s (UpE.s (UpE.s (UpE.s UpE.z))))))))
local macro_rules | `(tactic| walk_at "fg") => `(tactic| (repeat (first | exact Fg.nil | (with_reducible refine Fg.keep rfl ?_) | (with_reducible refine Fg.drop ?_))))
local macro_rules | `(tactic| walk_at "nonb") => `(tactic| first | exact nonb_I | exact nonb_No | exact nonb_Bo | exact nonb_S | exact nonb_seq | exact nonb_tup)

section
variable {M : Mo}
/-- what must lie there before the last d rows -/
def Row.need (later : Int) : Row → Int
  | .inn n => max 0 (later - n)
  | .out n => later + n
  | .seen a _ => max a later
def Nd (rows : List Row) : Nat → Int
  | 0 => 0
  | d + 1 => match rows[rows.length - 1 - d]? with
    | some r => r.need (Nd rows d)
    | none => 0
theorem Nd_succ {rows : List Row} {d : Nat} {r : Row} (h : rows[rows.length - 1 - d]? = some r) : Nd rows (d + 1) = r.need (Nd rows d) := by simp only [Nd, h]
def Row.low : Row → Int
  | .inn n => n
  | .out _ => 0
  | .seen a _ => a
def lw (rows : List Row) : Nat → Int
  | 0 => 0
  | k + 1 => match rows[k]? with
    | some r => max r.low (Nd rows (rows.length - 1 - k))
    | none => 0
theorem lw_succ {rows : List Row} {k : Nat} {r : Row} (h : rows[k]? = some r) : lw rows (k + 1) = max r.low (Nd rows (rows.length - 1 - k)) := by simp only [lw, h]
def f3 : Ct (List Row) := { As := fun g => [L Rw g], pre := fun g => g.length ≤ 100, S := fun g => L I (tab (lw g) (g.length + 1)) }
theorem okf3 (Bl : Blt M) (P : Pr M "_law_lows" (stm 25) ["rows"]) : Gd M 1 "_law_lows" ["rows"] f3 := by
  refine P.gd sc__law_lows (by intro _; rfl) fun X B0 F0 D rows hp hR hN => ?_
  dsimp only [mkΓ, f3] at hp hR ⊢
  refine ds_own0 (n_lstQ (I) (tab (Nd rows) 1) (a_cons d_int a_nil)) (Put.s Put.z) fun l_needs => ⟨_, (Put.s Put.z), ?_⟩
  refine ds_forF (fun i => ([("rows", some (L Rw rows)), ("needs", some (At l_needs)), ("k", none), ("lows", none), ("row", none), ("later", none), ("low", none)] : En)) (fun i => [(l_needs, Cl I (tab (Nd rows) (i + 1)))]) (i_rng1 (d_len (d_name Has.z) Bl.len) Bl.range) (by walk_at "fg") rfl ?_ ?_
  · rintro B1 hB1 i _ hi rfl
    have hi : i < rows.length := by omega
    obtain ⟨r, hr⟩ : ∃ r, rows[rows.length - 1 - i]? = some r := ⟨_, List.getElem?_eq_getElem (by omega)⟩
    have hs := Nd_succ hr
    refine ⟨_, _, (g_name (Put.s (Put.s Put.z))), ?_⟩
    refine ds_asg (d_ix (d_name Has.z) (d_sub (d_sub (d_len (d_name Has.z) Bl.len) d_int) (d_name (Has.s (Has.s Has.z)))) (atI_of (j := rows.length - 1 - i) (by omega) hr)) (Put.s (Put.s (Put.s (Put.s Put.z)))) ?_
    refine ds_asg (d_ixL (d_name (Has.s Has.z)) (d_neg d_int) (by walk_at "hold")) (Put.s (Put.s (Put.s (Put.s (Put.s Put.z))))) ?_
    cases r with
    | inn n =>
      refine ds_ifT (t_eqS (r_tag (d_name (Has.s (Has.s (Has.s (Has.s Has.z))))) d_int) d_str) y_in ?_
      refine ds_app (d_name (Has.s Has.z)) (d_max2 d_int (d_sub (d_name (Has.s (Has.s (Has.s (Has.s (Has.s Has.z)))))) (r_a1 (d_name (Has.s (Has.s (Has.s (Has.s Has.z))))) d_int)) Bl.max) (by walk_at "hold") (by walk_at "swp") (by rw [tab_len]; show _ < 16777216; omega) ?_
      refine ds_next ?_
      exact ds_turnF (by walk_at "fg") (by rw [tab_succ (n := i + 1), hs]; rfl) rfl rfl
    | out n =>
      refine ds_ifF (t_eqS (r_tag (d_name (Has.s (Has.s (Has.s (Has.s Has.z))))) d_int) d_str) n_oi ?_
      refine ds_ifT (t_eqS (r_tag (d_name (Has.s (Has.s (Has.s (Has.s Has.z))))) d_int) d_str) y_out ?_
      refine ds_app (d_name (Has.s Has.z)) (d_add (d_name (Has.s (Has.s (Has.s (Has.s (Has.s Has.z)))))) (r_a1 (d_name (Has.s (Has.s (Has.s (Has.s Has.z))))) d_int)) (by walk_at "hold") (by walk_at "swp") (by rw [tab_len]; show _ < 16777216; omega) ?_
      refine ds_next (ds_next ?_)
      exact ds_turnF (by walk_at "fg") (by rw [tab_succ (n := i + 1), hs]; rfl) rfl rfl
    | seen a b =>
      refine ds_ifF (t_eqS (r_tag (d_name (Has.s (Has.s (Has.s (Has.s Has.z))))) d_int) d_str) n_si ?_
      refine ds_ifF (t_eqS (r_tag (d_name (Has.s (Has.s (Has.s (Has.s Has.z))))) d_int) d_str) n_so ?_
      refine ds_app (d_name (Has.s Has.z)) (d_max2 (r_a1 (d_name (Has.s (Has.s (Has.s (Has.s Has.z))))) d_int) (d_name (Has.s (Has.s (Has.s (Has.s (Has.s Has.z)))))) Bl.max) (by walk_at "hold") (by walk_at "swp") (by rw [tab_len]; show _ < 16777216; omega) ?_
      refine ds_next (ds_next ?_)
      exact ds_turnF (by walk_at "fg") (by rw [tab_succ (n := i + 1), hs]; rfl) rfl rfl
  · rw [show ((rows.length : Int)).toNat = rows.length by omega]
    refine ds_own1 (n_lstQ (I) (tab (lw rows) 1) (a_cons d_int a_nil)) (Put.s (Put.s (Put.s Put.z))) fun l_lows => ⟨_, (Put.s (Put.s (Put.s Put.z))), ?_⟩
    refine ds_forF (fun i => ([("rows", some (L Rw rows)), ("needs", some (At l_needs)), ("k", none), ("lows", some (At l_lows)), ("row", none), ("later", none), ("low", none)] : En)) (fun i => [(l_needs, Cl I (tab (Nd rows) (rows.length + 1))), (l_lows, Cl I (tab (lw rows) (i + 1)))]) (i_rng1 (d_len (d_name Has.z) Bl.len) Bl.range) (by walk_at "fg") rfl ?_ ?_
    · rintro B1 hB1 i _ hi rfl
      have hi : i < rows.length := by omega
      obtain ⟨r, hr⟩ : ∃ r, rows[i]? = some r := ⟨_, List.getElem?_eq_getElem (by omega)⟩
      have hs := lw_succ hr
      refine ⟨_, _, (g_name (Put.s (Put.s Put.z))), ?_⟩
      refine ds_asg d_int (Put.s (Put.s (Put.s (Put.s (Put.s (Put.s Put.z)))))) ?_
      cases r with
      | inn n =>
        refine ds_ifT (t_neS (r_tag (d_ix (d_name Has.z) (d_name (Has.s (Has.s Has.z))) (atI_of (j := i) rfl hr)) d_int) d_str) (by rw [n_io]; rfl) ?_
        refine ds_asg (r_a1 (d_ix (d_name Has.z) (d_name (Has.s (Has.s Has.z))) (atI_of (j := i) rfl hr)) d_int) (Put.s (Put.s (Put.s (Put.s (Put.s (Put.s Put.z)))))) ?_
        refine ds_next ?_
        refine ds_app (d_name (Has.s (Has.s (Has.s Has.z)))) (d_max2 (d_name (Has.s (Has.s (Has.s (Has.s (Has.s (Has.s Has.z))))))) (d_ixTO (d_name (Has.s Has.z)) (d_sub (d_sub (d_len (d_name Has.z) Bl.len) d_int) (d_name (Has.s (Has.s Has.z)))) (by walk_at "hold") (rows.length - 1 - i) (by omega) (by omega)) Bl.max) (by walk_at "hold") (by walk_at "swp") (by rw [tab_len]; show _ < 16777216; omega) ?_
        exact ds_turnF (by walk_at "fg") (by rw [tab_succ (n := i + 1), hs]; rfl) rfl rfl
      | out n =>
        refine ds_ifF (t_neS (r_tag (d_ix (d_name Has.z) (d_name (Has.s (Has.s Has.z))) (atI_of (j := i) rfl hr)) d_int) d_str) (by rw [y_out]; rfl) (ds_next ?_)
        refine ds_app (d_name (Has.s (Has.s (Has.s Has.z)))) (d_max2 (d_name (Has.s (Has.s (Has.s (Has.s (Has.s (Has.s Has.z))))))) (d_ixTO (d_name (Has.s Has.z)) (d_sub (d_sub (d_len (d_name Has.z) Bl.len) d_int) (d_name (Has.s (Has.s Has.z)))) (by walk_at "hold") (rows.length - 1 - i) (by omega) (by omega)) Bl.max) (by walk_at "hold") (by walk_at "swp") (by rw [tab_len]; show _ < 16777216; omega) ?_
        exact ds_turnF (by walk_at "fg") (by rw [tab_succ (n := i + 1), hs]; rfl) rfl rfl
      | seen a b =>
        refine ds_ifT (t_neS (r_tag (d_ix (d_name Has.z) (d_name (Has.s (Has.s Has.z))) (atI_of (j := i) rfl hr)) d_int) d_str) (by rw [n_so]; rfl) ?_
        refine ds_asg (r_a1 (d_ix (d_name Has.z) (d_name (Has.s (Has.s Has.z))) (atI_of (j := i) rfl hr)) d_int) (Put.s (Put.s (Put.s (Put.s (Put.s (Put.s Put.z)))))) ?_
        refine ds_next ?_
        refine ds_app (d_name (Has.s (Has.s (Has.s Has.z)))) (d_max2 (d_name (Has.s (Has.s (Has.s (Has.s (Has.s (Has.s Has.z))))))) (d_ixTO (d_name (Has.s Has.z)) (d_sub (d_sub (d_len (d_name Has.z) Bl.len) d_int) (d_name (Has.s (Has.s Has.z)))) (by walk_at "hold") (rows.length - 1 - i) (by omega) (by omega)) Bl.max) (by walk_at "hold") (by walk_at "swp") (by rw [tab_len]; show _ < 16777216; omega) ?_
        exact ds_turnF (by walk_at "fg") (by rw [tab_succ (n := i + 1), hs]; rfl) rfl rfl
    · rw [show ((rows.length : Int)).toNat = rows.length by omega]
      refine ds_freeze (Upg.s (Upg.s (Upg.s Upg.z))) (by walk_at "tak") ?_
      exact ds_ret0 hR (d_name (Has.s (Has.s (Has.s Has.z))))
/-! ### the first clash -/
def lc (rows : List Row) (k : Nat) : Option (Int × Int) := Option.map (fun j : Nat => (((j : Int) - 1, (k : Int)) : Int × Int)) (ca rows k)
def f4 : Ct (List Row × Nat) := { As := fun g => [L Rw g.1, I (g.2 : Int)], pre := fun g => g.2 < g.1.length ∧ g.1.length ≤ 100, S := fun g => Opp (lc g.1 g.2) }
theorem okf4 (Bl : Blt M) (P : Pr M "_law_first_clash" (stm 26) ["rows", "k"]) (F1 : Gd M 1 "_law_moved" ["rows", "j", "k"] f1) : Gd M 2 "_law_first_clash" ["rows", "k"] f4 := by
  refine P.gd sc__law_first_clash (by intro _; rfl) fun X B0 F0 D g hp hR hN => ?_
  obtain ⟨rows, k⟩ := g
  dsimp only [mkΓ, f4] at hp hR ⊢
  obtain ⟨hk, hp⟩ := hp
  obtain ⟨r, hr⟩ : ∃ r, rows[k]? = some r := ⟨_, List.getElem?_eq_getElem hk⟩
  refine ds_asg d_int (Put.s (Put.s Put.z)) ?_
  refine ds_ifJ ([("rows", some (L Rw rows)), ("k", some (I (k : Int))), ("wants", some (I r.wb)), ("j", none), ("begins", none)] : En) [] rfl (t_eqS (r_tag (d_ix (d_name Has.z) (d_name (Has.s Has.z)) (atI_of (j := k) rfl hr)) d_int) d_str) ?_ ?_ ?_
  · intro h
    obtain ⟨a, b, rfl⟩ := tag_seen h
    refine ds_asg (r_a1 (d_ix (d_name Has.z) (d_name (Has.s Has.z)) (atI_of (j := k) rfl hr)) d_int) (Put.s (Put.s Put.z)) ?_
    exact ds_meet (by walk_at "fg") rfl rfl rfl
  · intro h
    cases r with
    | inn n => exact ds_meet (by walk_at "fg") rfl rfl rfl
    | out n => exact ds_meet (by walk_at "fg") rfl rfl rfl
    | seen a b => exact absurd rfl (not_seen h a b)
  · refine ds_for (fun i Γ ω => (∀ j, j < i → clP rows k j = false) ∧ Γ = ([("rows", some (L Rw rows)), ("k", some (I (k : Int))), ("wants", some (I r.wb)), ("j", none), ("begins", none)] : En) ∧ ω = []) (i_rng2 (d_neg d_int) (d_name (Has.s Has.z)) Bl.range) (Γ0 := ([("rows", some (L Rw rows)), ("k", some (I (k : Int))), ("wants", some (I r.wb)), ("j", none), ("begins", none)] : En)) (by walk_at "fg") ⟨fun j hj => absurd hj (Nat.not_lt_zero j), rfl, rfl⟩ ?_ ?_
    · rintro B1 hB1 i _ _ _ hi rfl ⟨hno, rfl, rfl⟩ _
      have hR := hR.mono hB1
      have hi : i < k + 1 := by omega
      refine ⟨_, _, (g_name (Put.s (Put.s (Put.s Put.z)))), ?_⟩
      refine ds_asg d_int (Put.s (Put.s (Put.s (Put.s Put.z)))) ?_
      have turn : ∀ (Γ : En), Γ.map (·.1) = nm__law_first_clash → clP rows k i = false → True := fun _ _ _ => trivial
      cases i with
      | zero =>
        refine ds_ifF (t_ge (d_name (Has.s (Has.s (Has.s Has.z)))) d_int) (decide_eq_false (by omega)) (ds_next ?_)
        refine ds_ifT (t_w (v_or (k := true) (l := true) (DT.eqB (t_lt (d_name (Has.s (Has.s (Has.s Has.z)))) d_int) (decide_eq_true (by omega))) (fun h => absurd h (by decide)))) rfl ?_
        have hc : clP rows k 0 = decide (0 + (cn rows (k + 1) - cn rows 0) < r.wb) := by
          simp only [clP, tb, hr]
          congr 1
          simp only [eq_iff_iff]
          constructor <;> intro <;> omega
        refine ds_if (t_lt (d_add (d_name (Has.s (Has.s (Has.s (Has.s Has.z))))) (d_call0 (t := f1) ((rows, 0, k + 1)) F1 (Nat.le_of_ble_eq_true rfl) (a_cons (d_name Has.z) (a_cons (d_add (d_name (Has.s (Has.s (Has.s Has.z)))) d_int) (a_cons (d_add (d_name (Has.s Has.z)) d_int) a_nil))) (by show [_, I (-1 + ((0 : Nat) : Int) + 1), _] = _; rfl) ⟨Nat.zero_le _, hk⟩)) (d_name (Has.s (Has.s Has.z)))) ?_ ?_
        · intro h
          have hf : ca rows k = some 0 := fst_some hno (hc.trans h.symm) hi
          exact ds_ret0 hR (d_tup (a_cons (d_name (Has.s (Has.s (Has.s Has.z)))) (a_cons (d_name (Has.s Has.z)) a_nil))) (by unfold lc; rw [hf]; rfl)
        · intro h
          refine ds_next (ds_next ?_)
          exact ds_turnJ (Γ1 := ([("rows", some (L Rw rows)), ("k", some (I (k : Int))), ("wants", some (I r.wb)), ("j", none), ("begins", none)] : En)) (by walk_at "fg") ⟨allS hno (hc.trans h.symm), rfl, rfl⟩ rfl rfl
      | succ i =>
        obtain ⟨q, hq⟩ : ∃ q, rows[i]? = some q := ⟨_, List.getElem?_eq_getElem (by omega)⟩
        refine ds_ifT (t_ge (d_name (Has.s (Has.s (Has.s Has.z)))) d_int) (decide_eq_true (by omega)) ?_
        refine ds_asg (r_la (d_ix (d_name Has.z) (d_name (Has.s (Has.s (Has.s Has.z)))) (atI_of (j := i) (by omega) hq)) (d_neg d_int)) (Put.s (Put.s (Put.s (Put.s Put.z)))) ?_
        refine ds_next ?_
        refine ds_if (t_w (v_or (t_lt (d_name (Has.s (Has.s (Has.s Has.z)))) d_int) (fun h1 => (v_or1 (t_eqS (r_tag (d_ix (d_name Has.z) (d_name (Has.s (Has.s (Has.s Has.z)))) (atI_of (j := i) (by omega) hq)) d_int) d_str))))) ?_ ?_
        · intro h
          have h : true = decide (q.tag = ("seen" : Str)) := by
            rw [decide_eq_false (by omega), Bool.false_or] at h
            exact h
          obtain ⟨a, b, rfl⟩ := tag_seen h
          have hc : clP rows k (i + 1) = decide (b + (cn rows (k + 1) - cn rows (i + 1)) < r.wb) := by
            simp only [clP, tb_seen hq, hr]
            congr 1
            simp only [eq_iff_iff]
            constructor <;> intro <;> omega
          refine ds_if (t_lt (d_add (d_name (Has.s (Has.s (Has.s (Has.s Has.z))))) (d_call0 (t := f1) ((rows, i + 1, k + 1)) F1 (Nat.le_of_ble_eq_true rfl) (a_cons (d_name Has.z) (a_cons (d_add (d_name (Has.s (Has.s (Has.s Has.z)))) d_int) (a_cons (d_add (d_name (Has.s Has.z)) d_int) a_nil))) (by rw [show (-1 + ((i + 1 : Nat) : Int) + 1) = ((i + 1 : Nat) : Int) by omega]; rfl) ⟨by show i + 1 ≤ k + 1; omega, hk⟩)) (d_name (Has.s (Has.s Has.z)))) ?_ ?_
          · intro h
            have hf : ca rows k = some (i + 1) := fst_some hno (hc.trans h.symm) hi
            exact ds_ret0 hR (d_tup (a_cons (d_name (Has.s (Has.s (Has.s Has.z)))) (a_cons (d_name (Has.s Has.z)) a_nil))) (by unfold lc; rw [hf]; show U [I _, I _] = U [I _, I _]; rw [show (-1 + ((i + 1 : Nat) : Int)) = ((i + 1 : Nat) : Int) - 1 by omega])
          · intro h
            refine ds_next (ds_next ?_)
            exact ds_turnJ (Γ1 := ([("rows", some (L Rw rows)), ("k", some (I (k : Int))), ("wants", some (I r.wb)), ("j", none), ("begins", none)] : En)) (by walk_at "fg") ⟨allS hno (hc.trans h.symm), rfl, rfl⟩ rfl rfl
        · intro h
          have h : false = decide (q.tag = ("seen" : Str)) := by
            rw [decide_eq_false (by omega), Bool.false_or] at h
            exact h
          have hc : clP rows k (i + 1) = false := by simp only [clP, tb_other hq (not_seen h)]
          refine ds_next ?_
          exact ds_turnJ (Γ1 := ([("rows", some (L Rw rows)), ("k", some (I (k : Int))), ("wants", some (I r.wb)), ("j", none), ("begins", none)] : En)) (by walk_at "fg") ⟨allS hno hc, rfl, rfl⟩ rfl rfl
    · rintro _ _ ⟨hno, rfl, rfl⟩ _
      have hf : ca rows k = none := fst_none fun j hj => hno j (by omega)
      exact ds_ret0 hR d_none (by unfold lc; rw [hf]; rfl)
/-! ### what was lost -/
/-- what is there after i more rows from place j on -/
def Hd (rows : List Row) (h : Int) (j : Nat) : Nat → Int
  | 0 => h
  | i + 1 => match rows[j + i]? with
    | some r => r.go (Hd rows h j i)
    | none => 0
theorem Hd_succ {rows : List Row} {h : Int} {j i : Nat} {r : Row} (e : rows[j + i]? = some r) : Hd rows h j (i + 1) = r.go (Hd rows h j i) := by simp only [Hd, e]
def ln (rows : List Row) (j i : Nat) : Int := lw rows j + (cn rows (j + i) - cn rows j) - Hd rows (lw rows j) j i
def ll (rows : List Row) (j k : Nat) : Int × Int := if j = k then (0, 0) else (ln rows j (k - j), K19.top rows j + (cn rows k - cn rows j) - lw rows k)
def f5 : Ct (List Row × (Nat × Nat)) := { As := fun g => [L Rw g.1, I (g.2.1 : Int), I (g.2.2 : Int), L I (tab (lw g.1) (g.1.length + 1)), L I (tab (K19.top g.1) (g.1.length + 1))], pre := fun g => g.2.1 ≤ g.2.2 ∧ g.2.2 ≤ g.1.length, S := fun g => P2 (ll g.1 g.2.1 g.2.2) }
theorem okf5 (Bl : Blt M) (P : Pr M "_law_lost" (stm 27) ["rows", "j", "k", "lows", "tops"]) (F1 : Gd M 1 "_law_moved" ["rows", "j", "k"] f1) : Gd M 2 "_law_lost" ["rows", "j", "k", "lows", "tops"] f5 := by
  refine P.gd sc__law_lost (by intro _; rfl) fun X B0 F0 D g hp hR hN => ?_
  obtain ⟨rows, j, k⟩ := g
  dsimp only [mkΓ, f5] at hp hR ⊢
  obtain ⟨hj, hk⟩ := hp
  refine ds_if (t_eqI (d_name (Has.s Has.z)) (d_name (Has.s (Has.s Has.z)))) ?_ ?_
  · intro h
    have h : (j : Int) = k := of_decide_eq_true h.symm
    exact ds_ret0 hR (d_tup (a_cons d_int (a_cons d_int a_nil))) (by unfold ll; rw [if_pos (by omega)]; rfl)
  · intro h
    have h : ¬ (j : Int) = k := of_decide_eq_false h.symm
    refine ds_next ?_
    refine ds_asg (d_call0 (t := f1) ((rows, j, k)) F1 (Nat.le_of_ble_eq_true rfl) (a_cons (d_name Has.z) (a_cons (d_name (Has.s Has.z)) (a_cons (d_name (Has.s (Has.s Has.z))) a_nil))) rfl ⟨hj, hk⟩) (Put.s (Put.s (Put.s (Put.s (Put.s Put.z))))) ?_
    refine ds_asg (d_ixT (d_name (Has.s (Has.s (Has.s Has.z)))) (d_name (Has.s Has.z)) j rfl (by omega)) (Put.s (Put.s (Put.s (Put.s (Put.s (Put.s Put.z)))))) ?_
    have e1 : cut rows (some (j : Int)) (some (k : Int)) = (rows.take k).drop j := cut_both hj
    refine ds_forF (fun i => ([("rows", some (L Rw rows)), ("j", some (I (j : Int))), ("k", some (I (k : Int))), ("lows", some (L I (tab (lw rows) (rows.length + 1)))), ("tops", some (L I (tab (K19.top rows) (rows.length + 1)))), ("change", some (I (cn rows k - cn rows j))), ("held", some (I (Hd rows (lw rows j) j i))), ("row", none)] : En)) (fun i => []) (i_seq (d_sl (d_name Has.z) (o_some (d_name (Has.s Has.z))) (o_some (d_name (Has.s (Has.s Has.z)))))) (by walk_at "fg") rfl ?_ ?_
    · rintro B1 hB1 i r hi hr
      rw [e1] at hr
      obtain ⟨hr, _⟩ := mid_get hr
      have hs := Hd_succ (h := lw rows j) hr
      refine ⟨_, _, (g_name (Put.s (Put.s (Put.s (Put.s (Put.s (Put.s (Put.s Put.z)))))))), ?_⟩
      cases r with
      | inn n =>
        refine ds_ifT (t_eqS (r_tag (d_name (Has.s (Has.s (Has.s (Has.s (Has.s (Has.s (Has.s Has.z)))))))) d_int) d_str) y_in ?_
        refine ds_asg (d_add (d_name (Has.s (Has.s (Has.s (Has.s (Has.s (Has.s Has.z))))))) (r_a1 (d_name (Has.s (Has.s (Has.s (Has.s (Has.s (Has.s (Has.s Has.z)))))))) d_int)) (Put.s (Put.s (Put.s (Put.s (Put.s (Put.s Put.z)))))) ?_
        refine ds_next ?_
        exact ds_turnF (by rw [hs]; walk_at "fg") rfl rfl rfl
      | out n =>
        refine ds_ifF (t_eqS (r_tag (d_name (Has.s (Has.s (Has.s (Has.s (Has.s (Has.s (Has.s Has.z)))))))) d_int) d_str) n_oi ?_
        refine ds_ifT (t_eqS (r_tag (d_name (Has.s (Has.s (Has.s (Has.s (Has.s (Has.s (Has.s Has.z)))))))) d_int) d_str) y_out ?_
        refine ds_asg (d_sub (d_name (Has.s (Has.s (Has.s (Has.s (Has.s (Has.s Has.z))))))) (r_a1 (d_name (Has.s (Has.s (Has.s (Has.s (Has.s (Has.s (Has.s Has.z)))))))) d_int)) (Put.s (Put.s (Put.s (Put.s (Put.s (Put.s Put.z)))))) ?_
        refine ds_next (ds_next ?_)
        exact ds_turnF (by rw [hs]; walk_at "fg") rfl rfl rfl
      | seen a b =>
        refine ds_ifF (t_eqS (r_tag (d_name (Has.s (Has.s (Has.s (Has.s (Has.s (Has.s (Has.s Has.z)))))))) d_int) d_str) n_si ?_
        refine ds_ifF (t_eqS (r_tag (d_name (Has.s (Has.s (Has.s (Has.s (Has.s (Has.s (Has.s Has.z)))))))) d_int) d_str) n_so ?_
        refine ds_asg (d_min2 (d_name (Has.s (Has.s (Has.s (Has.s (Has.s (Has.s Has.z))))))) (r_a2 (d_name (Has.s (Has.s (Has.s (Has.s (Has.s (Has.s (Has.s Has.z)))))))) d_int rfl) Bl.min) (Put.s (Put.s (Put.s (Put.s (Put.s (Put.s Put.z)))))) ?_
        refine ds_next (ds_next ?_)
        exact ds_turnF (by rw [hs]; walk_at "fg") rfl rfl rfl
    · rw [e1, show ((rows.take k).drop j).length = k - j by simp; omega]
      exact ds_ret0 hR (d_tup (a_cons (d_sub (d_add (d_ixT (d_name (Has.s (Has.s (Has.s Has.z)))) (d_name (Has.s Has.z)) j rfl (by omega)) (d_name (Has.s (Has.s (Has.s (Has.s (Has.s Has.z))))))) (d_name (Has.s (Has.s (Has.s (Has.s (Has.s (Has.s Has.z)))))))) (a_cons (d_sub (d_add (d_ixT (d_name (Has.s (Has.s (Has.s (Has.s Has.z))))) (d_name (Has.s Has.z)) j rfl (by omega)) (d_name (Has.s (Has.s (Has.s (Has.s (Has.s Has.z))))))) (d_ixT (d_name (Has.s (Has.s (Has.s Has.z)))) (d_name (Has.s (Has.s Has.z))) k rfl (by omega))) a_nil))) (by unfold ll ln; rw [if_neg (by omega), show j + (k - j) = k by omega]; rfl)
end
end K19

set_option maxHeartbeats 2000000
/-! K19h: told and due, the law's sure losses. -/
namespace K19
open PySem PySem.Spec PyProof.Rows L2 ZZ
open Evl (Ex)
local macro_rules | `(tactic| walk_at "has") => `(tactic| (with_reducible first | exact Has.z | exact Has.s Has.z | exact Has.s (Has.s Has.z) | exact Has.s (Has.s (Has.s Has.z)) | exact Has.s (Has.s (Has.s (Has.s Has.z))) | exact Has.s (Has.s (Has.s (Has.s (Has.s Has.z)))) | exact Has.s (Has.s (Has.s (Has.s (Has.s (Has.s Has.z))))) | exact Has.s (Has.s (Has.s (Has.s (Has.s (Has.s (Has.s Has.z))))))))
local macro_rules | `(tactic| walk_at "put") => `(tactic| (with_reducible first | exact Put.z | exact Put.s Put.z | exact Put.s (Put.s Put.z) | exact Put.s (Put.s (Put.s Put.z)) | exact Put.s (Put.s (Put.s (Put.s Put.z))) | exact Put.s (Put.s (Put.s (Put.s (Put.s Put.z)))) | exact Put.s (Put.s (Put.s (Put.s (Put.s (Put.s Put.z))))) | exact Put.s (Put.s (Put.s (Put.s (Put.s (Put.s (Put.s Put.z))))))))
local macro_rules | `(tactic| walk_at "swp") => `(tactic| (with_reducible first | exact Swp.z | exact Swp.s Swp.z | exact Swp.s (Swp.s Swp.z) | exact Swp.s (Swp.s (Swp.s Swp.z)) | exact Swp.s (Swp.s (Swp.s (Swp.s Swp.z))) | exact Swp.s (Swp.s (Swp.s (Swp.s (Swp.s Swp.z)))) | exact Swp.s (Swp.s (Swp.s (Swp.s (Swp.s (Swp.s Swp.z))))) | exact Swp.s (Swp.s (Swp.s (Swp.s (Swp.s (Swp.s (Swp.s Swp.z))))))))
local macro_rules | `(tactic| walk_at "tak") => `(tactic| (with_reducible first | exact Tak.z | exact Tak.s Tak.z | exact Tak.s (Tak.s Tak.z) | exact Tak.s (Tak.s (Tak.s Tak.z)) | exact Tak.s (Tak.s (Tak.s (Tak.s Tak.z))) | exact Tak.s (Tak.s (Tak.s (Tak.s (Tak.s Tak.z)))) | exact Tak.s (Tak.s (Tak.s (Tak.s (Tak.s (Tak.s Tak.z))))) | exact Tak.s (Tak.s (Tak.s (Tak.s (Tak.s (Tak.s (Tak.s Tak.z))))))))
local macro_rules | `(tactic| walk_at "hold") => `(tactic| (with_reducible first | exact Hold.z | exact Hold.s Hold.z | exact Hold.s (Hold.s Hold.z) | exact Hold.s (Hold.s (Hold.s Hold.z)) | exact Hold.s (Hold.s (Hold.s (Hold.s Hold.z))) | exact Hold.s (Hold.s (Hold.s (Hold.s (Hold.s Hold.z)))) | exact Hold.s (Hold.s (Hold.s (Hold.s (Hold.s (Hold.s Hold.z))))) | exact Hold.s (Hold.s (Hold.s (Hold.s (Hold.s (Hold.s (Hold.s Hold.z))))))))
local macro_rules | `(tactic| walk_at "upe") => `(tactic| (with_reducible first | exact UpE.z | exact UpE.s UpE.z | exact UpE.s (UpE.s UpE.z) | exact UpE.s (UpE.s (UpE.s UpE.z)) | exact UpE.s (UpE.s (UpE.s (UpE.s UpE.z))) | exact UpE.s (UpE.s (UpE.s (UpE.s (UpE.s UpE.z)))) | exact UpE.s (UpE.s (UpE.s (UpE.s (UpE.s (UpE.s UpE.z))))) | exact UpE.s (UpE.s (UpE.s (UpE.s (UpE.s (UpE.s (UpE.s UpE.z))))))))
local macro_rules | `(tactic| walk_at "fg") => `(tactic| (repeat (first | exact Fg.nil | (with_reducible refine Fg.keep rfl ?_) | (with_reducible refine Fg.drop ?_))))
local macro_rules | `(tactic| walk_at "nonb") => `(tactic| first | exact nonb_I | exact nonb_No | exact nonb_Bo | exact nonb_S | exact nonb_seq | exact nonb_tup)

section
variable {M : Mo}
/-- what has no parts -/
inductive Sca | non | bl (b : Bool) | int (i : Int)
def Sca.sh : Sca → Sh
  | .non => No
  | .bl b => Bo b
  | .int i => I i
def s0 : Ct Sca := { As := fun x => [x.sh, x.sh], S := fun _ => Bo true }
theorem oks0 (Bl : Blt M) (P : Pr M "_law_same" (stm 21) ["told", "due"]) : Gd M 1 "_law_same" ["told", "due"] s0 := by
  refine P.gd sc__law_same (by intro _; rfl) fun X B0 F0 D g hp hR hN => ?_
  dsimp only [mkΓ, s0] at hp hR ⊢
  cases g with
  | non =>
    refine ds_ifT (t_isN (d_name (Has.s Has.z)) nonb_No) rfl ?_
    exact ds_ret0 hR (d_isN (d_name Has.z) nonb_No)
  | bl b =>
    refine ds_ifF (t_isN (d_name (Has.s Has.z)) nonb_Bo) rfl (ds_next ?_)
    cases b with
    | true =>
      refine ds_ifT (t_isT (d_name (Has.s Has.z)) istb_sc) rfl ?_
      exact ds_ret0 hR (d_isT (d_name Has.z) istb_sc)
    | false =>
      refine ds_ifF (t_isT (d_name (Has.s Has.z)) istb_sc) rfl (ds_next ?_)
      refine ds_ifT (t_isT (d_name (Has.s Has.z)) istb_sc) rfl ?_
      exact ds_ret0 hR (d_isT (d_name Has.z) istb_sc)
  | int i =>
    refine ds_ifF (t_isN (d_name (Has.s Has.z)) nonb_I) rfl (ds_next ?_)
    refine ds_ifF (t_isT (d_name (Has.s Has.z)) istb_sc) rfl (ds_next ?_)
    refine ds_ifF (t_isT (d_name (Has.s Has.z)) istb_sc) rfl (ds_next ?_)
    refine ds_ifF (t_val (d_isi (m := "tuple") (d_name (Has.s Has.z)) (fun K => ty_int) (by rfl) Bl.isinstance Bl.tuple (by decide +kernel))) rfl (ds_next ?_)
    exact ds_ret0 hR (d_and (d_isi (m := "int") (d_name Has.z) (fun K => ty_int) (by rfl) Bl.isinstance Bl.int (by decide +kernel)) (fun _ => (d_and (d_not (d_isi (m := "bool") (d_name Has.z) (fun K => ty_int) (by rfl) Bl.isinstance Bl.bool (by decide +kernel))) (fun _ => (d_one (d_eqI (d_name Has.z) (d_name (Has.s Has.z)))))))) (by simp; exact congrArg Bo (by decide +kernel))
/-- a tuple of things that answer alike -/
def sT1 {τ : Type} (t : Ct τ) (Rs : τ → Sh) : Ct (List τ) := { As := fun xs => [Sq false Rs xs, Sq false Rs xs], pre := fun xs => xs.length ≤ 100000 ∧ ∀ x ∈ xs, t.pre x, S := fun _ => Bo true }
theorem oksT (Bl : Blt M) (P : Pr M "_law_same" (stm 21) ["told", "due"]) {τ : Type} {t : Ct τ} {Rs : τ → Sh} {d : Nat} (G : Gd M d "_law_same" ["told", "due"] t) (h1 : ∀ x, t.As x = [Rs x, Rs x]) (h2 : ∀ x, t.S x = Bo true) (h3 : ∀ x, t.ω x = []) (h4 : ∀ x, t.ω' x = []) : Gd M (d + 1) "_law_same" ["told", "due"] (sT1 t Rs) := by
  refine P.gd sc__law_same (by intro _; rfl) fun X B0 F0 D xs hp hR hN => ?_
  dsimp only [mkΓ, sT1] at hp hR ⊢
  refine ds_ifF (t_isN (d_name (Has.s Has.z)) nonb_seq) rfl (ds_next ?_)
  refine ds_ifF (t_isT (d_name (Has.s Has.z)) istb_seq) rfl (ds_next ?_)
  refine ds_ifF (t_isT (d_name (Has.s Has.z)) istb_seq) rfl (ds_next ?_)
  refine ds_ifT (t_val (d_isi (m := "tuple") (d_name (Has.s Has.z)) (fun K => ty_tup) (by rfl) Bl.isinstance Bl.tuple (by decide +kernel))) rfl ?_
  refine ds_ifF (t_w (v_or (k := false) (l := false) (DT.eqB (t_notD (t_val (d_isi (m := "tuple") (d_name Has.z) (fun K => ty_tup) (by rfl) Bl.isinstance Bl.tuple (by decide +kernel)))) rfl) (fun _ => v_or1 (DT.eqB (t_neI (d_len (d_name Has.z) Bl.len) (d_len (d_name (Has.s Has.z)) Bl.len)) (by simp))))) rfl (ds_next ?_)
  refine ds_forF (fun i => ([("told", some (Sq false Rs xs)), ("due", some (Sq false Rs xs)), ("k", none)] : En)) (fun i => []) (i_rng1 (d_len (d_name (Has.s Has.z)) Bl.len) Bl.range) (by walk_at "fg") rfl ?_ ?_
  · rintro B1 hB1 i _ hi rfl
    have hR := hR.mono hB1
    have hi : i < xs.length := by omega
    obtain ⟨y, hy⟩ : ∃ y, xs[i]? = some y := ⟨_, List.getElem?_eq_getElem hi⟩
    refine ⟨_, _, (g_name (Put.s (Put.s Put.z))), ?_⟩
    refine ds_ifF (t_notD (t_val ((d_call0 (t := t) y G (Nat.le_refl _) (a_cons (d_ix (d_name Has.z) (d_name (Has.s (Has.s Has.z))) (atI_of rfl hy)) (a_cons (d_ix (d_name (Has.s Has.z)) (d_name (Has.s (Has.s Has.z))) (atI_of rfl hy)) a_nil)) (h1 y).symm (hp.2 y (List.mem_of_getElem? hy)) (h3 y) (h4 y)).eqS (h2 y)))) rfl (ds_next ?_)
    exact ds_turnF (by walk_at "fg") rfl rfl rfl
  · exact ds_ret0 hR d_bool
def s1 : Ct (List Sca) := sT1 s0 Sca.sh
def s2 : Ct (List (List Sca)) := sT1 s1 (Sq false Sca.sh)
/-- the forms that the law asks for -/
def sB : Ct Bool := { As := fun b => [Bo b, Bo b], S := fun _ => Bo true }
def sI : Ct Int := { As := fun i => [I i, I i], S := fun _ => Bo true }
def sO : Ct (Option (Int × Int)) := { As := fun o => [Opp o, Opp o], S := fun _ => Bo true }
def sQ : Ct (List (Int × Int)) := { As := fun xs => [Sq false P2 xs, Sq false P2 xs], pre := fun xs => xs.length ≤ 100000, S := fun _ => Bo true }
def pr2 (x : Int × Int) : List Sca := [.int x.1, .int x.2]
theorem sle_P2 {x : Int × Int} : Sle (P2 x) (Sq false Sca.sh (pr2 x)) := sle_tup (R := Sca.sh) (xs := pr2 x)
theorem sle_map {α β : Type} {bb : Bool} {R : α → Sh} {R' : β → Sh} {f : α → β} {xs : List α} (h : ∀ x, Sle (R x) (R' (f x))) : Sle (Sq bb R xs) (Sq bb R' (xs.map f)) := fun B v q => by
  obtain ⟨a, vs, rfl, q1, q2⟩ := q
  refine ⟨a, vs, rfl, q1, ?_⟩
  clear q1
  induction xs generalizing vs with
  | nil => cases q2; exact .nil
  | cons x xs ih => cases q2 with | cons p q => exact .cons (h x _ _ p) (ih _ q)
theorem oksB (G : Gd M 1 "_law_same" ["told", "due"] s0) : Gd M 1 "_law_same" ["told", "due"] sB := G.pull (fun b => .bl b) (fun b _ => .cons Sle.refl (.cons Sle.refl .nil)) (fun _ _ => trivial) (fun _ => rfl) (fun _ => rfl) (fun _ _ => Sle.refl)
theorem oksI (G : Gd M 1 "_law_same" ["told", "due"] s0) : Gd M 1 "_law_same" ["told", "due"] sI := G.pull (fun b => .int b) (fun b _ => .cons Sle.refl (.cons Sle.refl .nil)) (fun _ _ => trivial) (fun _ => rfl) (fun _ => rfl) (fun _ _ => Sle.refl)
theorem oksQ (G : Gd M 3 "_law_same" ["told", "due"] s2) : Gd M 3 "_law_same" ["told", "due"] sQ := G.pull (fun xs => xs.map pr2) (fun b _ => .cons (sle_map fun _ => sle_P2) (.cons (sle_map fun _ => sle_P2) .nil)) (fun xs h => ⟨by rw [List.length_map]; exact h, fun x hx => by
  obtain ⟨y, _, rfl⟩ := List.mem_map.mp hx
  exact ⟨by show 2 ≤ _; omega, fun _ _ => trivial⟩⟩) (fun _ => rfl) (fun _ => rfl) (fun _ _ => Sle.refl)
theorem oksO (G0 : Gd M 1 "_law_same" ["told", "due"] s0) (G1 : Gd M 2 "_law_same" ["told", "due"] s1) : (Gd M 1 "_law_same" ["told", "due"] { As := fun (_ : Unit) => [No, No], S := fun _ => Bo true }) ∧ (Gd M 2 "_law_same" ["told", "due"] { As := fun (x : Int × Int) => [P2 x, P2 x], S := fun _ => Bo true }) :=
  ⟨G0.pull (fun _ => .non) (fun b _ => .cons Sle.refl (.cons Sle.refl .nil)) (fun _ _ => trivial) (fun _ => rfl) (fun _ => rfl) (fun _ _ => Sle.refl),
   G1.pull pr2 (fun b _ => .cons sle_P2 (.cons sle_P2 .nil)) (fun _ _ => ⟨by show 2 ≤ _; omega, fun _ _ => trivial⟩) (fun _ => rfl) (fun _ => rfl) (fun _ _ => Sle.refl)⟩
end
end K19

set_option maxHeartbeats 2000000
/-! K19i: the law's sure losses. -/
namespace K19
open PySem PySem.Spec PyProof.Rows L2 ZZ
open Evl (Ex)
local macro_rules | `(tactic| walk_at "has") => `(tactic| (with_reducible first | exact Has.z | exact Has.s Has.z | exact Has.s (Has.s Has.z) | exact Has.s (Has.s (Has.s Has.z)) | exact Has.s (Has.s (Has.s (Has.s Has.z))) | exact Has.s (Has.s (Has.s (Has.s (Has.s Has.z)))) | exact Has.s (Has.s (Has.s (Has.s (Has.s (Has.s Has.z))))) | exact Has.s (Has.s (Has.s (Has.s (Has.s (Has.s (Has.s Has.z))))))))
local macro_rules | `(tactic| walk_at "put") => `(tactic| (with_reducible first | exact Put.z | exact Put.s Put.z | exact Put.s (Put.s Put.z) | exact Put.s (Put.s (Put.s Put.z)) | exact Put.s (Put.s (Put.s (Put.s Put.z))) | exact Put.s (Put.s (Put.s (Put.s (Put.s Put.z)))) | exact Put.s (Put.s (Put.s (Put.s (Put.s (Put.s Put.z))))) | exact Put.s (Put.s (Put.s (Put.s (Put.s (Put.s (Put.s Put.z))))))))
local macro_rules | `(tactic| walk_at "swp") => `(tactic| (with_reducible first | exact Swp.z | exact Swp.s Swp.z | exact Swp.s (Swp.s Swp.z) | exact Swp.s (Swp.s (Swp.s Swp.z)) | exact Swp.s (Swp.s (Swp.s (Swp.s Swp.z))) | exact Swp.s (Swp.s (Swp.s (Swp.s (Swp.s Swp.z)))) | exact Swp.s (Swp.s (Swp.s (Swp.s (Swp.s (Swp.s Swp.z))))) | exact Swp.s (Swp.s (Swp.s (Swp.s (Swp.s (Swp.s (Swp.s Swp.z))))))))
local macro_rules | `(tactic| walk_at "tak") => `(tactic| (with_reducible first | exact Tak.z | exact Tak.s Tak.z | exact Tak.s (Tak.s Tak.z) | exact Tak.s (Tak.s (Tak.s Tak.z)) | exact Tak.s (Tak.s (Tak.s (Tak.s Tak.z))) | exact Tak.s (Tak.s (Tak.s (Tak.s (Tak.s Tak.z)))) | exact Tak.s (Tak.s (Tak.s (Tak.s (Tak.s (Tak.s Tak.z))))) | exact Tak.s (Tak.s (Tak.s (Tak.s (Tak.s (Tak.s (Tak.s Tak.z))))))))
local macro_rules | `(tactic| walk_at "hold") => `(tactic| (with_reducible first | exact Hold.z | exact Hold.s Hold.z | exact Hold.s (Hold.s Hold.z) | exact Hold.s (Hold.s (Hold.s Hold.z)) | exact Hold.s (Hold.s (Hold.s (Hold.s Hold.z))) | exact Hold.s (Hold.s (Hold.s (Hold.s (Hold.s Hold.z)))) | exact Hold.s (Hold.s (Hold.s (Hold.s (Hold.s (Hold.s Hold.z))))) | exact Hold.s (Hold.s (Hold.s (Hold.s (Hold.s (Hold.s (Hold.s Hold.z))))))))
local macro_rules | `(tactic| walk_at "upe") => `(tactic| (with_reducible first | exact UpE.z | exact UpE.s UpE.z | exact UpE.s (UpE.s UpE.z) | exact UpE.s (UpE.s (UpE.s UpE.z)) | exact UpE.s (UpE.s (UpE.s (UpE.s UpE.z))) | exact UpE.s (UpE.s (UpE.s (UpE.s (UpE.s UpE.z)))) | exact UpE.s (UpE.s (UpE.s (UpE.s (UpE.s (UpE.s UpE.z))))) | exact UpE.s (UpE.s (UpE.s (UpE.s (UpE.s (UpE.s (UpE.s UpE.z))))))))
local macro_rules | `(tactic| walk_at "fg") => `(tactic| (repeat (first | exact Fg.nil | (with_reducible refine Fg.keep rfl ?_) | (with_reducible refine Fg.drop ?_))))
local macro_rules | `(tactic| walk_at "nonb") => `(tactic| first | exact nonb_I | exact nonb_No | exact nonb_Bo | exact nonb_S | exact nonb_seq | exact nonb_tup)
local macro_rules | `(tactic| walk_at "istb") => `(tactic| first | exact istb_sc | exact istb_seq | exact istb_tup)

section
variable {M : Mo}
def sL (rows : List Row) (j k : Nat) : Bool := decide (0 < ln rows j (k - j)) && (decide (ln rows j (k - j - 1) = 0) && decide (ln rows (j + 1) (k - j - 1) = 0))
def lns (rows : List Row) (j : Nat) : List Int := tab (ln rows j) (rows.length - j + 1)
def f6 : Ct (List Row) := { As := fun g => [L Rw g, L I (tab (lw g) (g.length + 1))], pre := fun g => g.length ≤ 100, S := fun g => Sq false P2 (pout (sL g) g.length g.length) }
theorem ln_zero {rows : List Row} {j : Nat} : ln rows j 0 = 0 := by
  show lw rows j + (cn rows (j + 0) - cn rows j) - lw rows j = 0
  rw [Nat.add_zero]
  omega
theorem ln_succ {rows : List Row} {j i : Nat} {r : Row} (h : rows[j + i]? = some r) : ln rows j (i + 1) = ln rows j i + (Hd rows (lw rows j) j i + r.ch - r.go (Hd rows (lw rows j) j i)) := by
  have hc := cn_succ h
  unfold ln
  rw [Hd_succ h, ← Nat.add_assoc, hc]
  omega
theorem okf6 (Bl : Blt M) (P : Pr M "_law_sure" (stm 28) ["rows", "lows"]) : Gd M 1 "_law_sure" ["rows", "lows"] f6 := by
  refine P.gd sc__law_sure (by intro _; rfl) fun X B0 F0 D rows hp hR hN => ?_
  dsimp only [mkΓ, f6] at hp hR ⊢
  refine ds_own0 (n_lstQ ((fun f : List Int => L I f)) (tab (lns rows) 0) a_nil) (Put.s (Put.s Put.z)) fun l_least => ⟨_, (Put.s (Put.s Put.z)), ?_⟩
  refine ds_forF (fun i => ([("rows", some (L Rw rows)), ("lows", some (L I (tab (lw rows) (rows.length + 1)))), ("least", some (At l_least)), ("j", none), ("found", none), ("held", none), ("line", none), ("row", none), ("k", none), ("cut", none)] : En)) (fun i => [(l_least, Cl (fun f : List Int => L I f) (tab (lns rows) i))]) (i_rng1 (d_add (d_len (d_name Has.z) Bl.len) d_int) Bl.range) (by walk_at "fg") rfl ?_ ?_
  · rintro B1 hB1 j _ hj rfl
    have hj : j ≤ rows.length := by omega
    refine ⟨_, _, (g_name (Put.s (Put.s (Put.s Put.z)))), ?_⟩
    refine ds_asg (d_ixT (Rs := I) (d_name (Has.s Has.z)) (d_name (Has.s (Has.s (Has.s Has.z)))) j rfl (by omega)) (Put.s (Put.s (Put.s (Put.s (Put.s Put.z))))) ?_
    refine ds_own1 (n_lstQ (I) ([0]) (a_cons d_int a_nil)) (Put.s (Put.s (Put.s (Put.s (Put.s (Put.s Put.z)))))) fun l_line => ⟨_, (Put.s (Put.s (Put.s (Put.s (Put.s (Put.s Put.z)))))), ?_⟩
    have e1 : cut rows (some (j : Int)) none = rows.drop j := cut_drop
    refine ds_forF (fun i => ([("rows", some (L Rw rows)), ("lows", some (L I (tab (lw rows) (rows.length + 1)))), ("least", some (At l_least)), ("j", some (I (j : Int))), ("found", none), ("held", some (I (Hd rows (lw rows j) j i))), ("line", some (At l_line)), ("row", none), ("k", none), ("cut", none)] : En)) (fun i => [(l_least, Cl (fun f : List Int => L I f) (tab (lns rows) j)), (l_line, Cl I (tab (ln rows j) (i + 1)))]) (i_seq (d_sl (d_name Has.z) (o_some (d_name (Has.s (Has.s (Has.s Has.z))))) o_none)) (by walk_at "fg") (by rw [show tab (ln rows j) (0 + 1) = [0] by rw [← ln_zero (rows := rows) (j := j)]; rfl]) ?_ ?_
    · rintro B2 hB2 i r hi hr
      rw [e1, List.getElem?_drop] at hr
      have hi2 : j + i < rows.length := (List.getElem?_eq_some_iff.mp hr).1
      have hs := Hd_succ (h := lw rows j) hr
      have hl := ln_succ hr
      refine ⟨_, _, (g_name (Put.s (Put.s (Put.s (Put.s (Put.s (Put.s (Put.s Put.z)))))))), ?_⟩
      refine ds_asg d_int (Put.s (Put.s (Put.s (Put.s (Put.s (Put.s (Put.s (Put.s (Put.s Put.z))))))))) ?_
      cases r with
      | inn n =>
        refine ds_ifT (t_eqS (r_tag (d_name (Has.s (Has.s (Has.s (Has.s (Has.s (Has.s (Has.s Has.z)))))))) d_int) d_str) y_in ?_
        refine ds_asg (d_add (d_name (Has.s (Has.s (Has.s (Has.s (Has.s Has.z)))))) (r_a1 (d_name (Has.s (Has.s (Has.s (Has.s (Has.s (Has.s (Has.s Has.z)))))))) d_int)) (Put.s (Put.s (Put.s (Put.s (Put.s Put.z))))) ?_
        refine ds_next ?_
        refine ds_app (d_name (Has.s (Has.s (Has.s (Has.s (Has.s (Has.s Has.z))))))) (d_add (d_ixL (d_name (Has.s (Has.s (Has.s (Has.s (Has.s (Has.s Has.z))))))) (d_neg d_int) (by walk_at "hold")) (d_name (Has.s (Has.s (Has.s (Has.s (Has.s (Has.s (Has.s (Has.s (Has.s Has.z))))))))))) (by walk_at "hold") (by walk_at "swp") (by rw [tab_len]; show _ < 16777216; omega) ?_
        exact ds_turnF (by rw [hs]; walk_at "fg") (by rw [tab_succ (n := i + 1), hl]; simp only [Row.ch, Row.go]; rw [show Hd rows (lw rows j) j i + n - (Hd rows (lw rows j) j i + n) = 0 by omega]) rfl rfl
      | out n =>
        refine ds_ifF (t_eqS (r_tag (d_name (Has.s (Has.s (Has.s (Has.s (Has.s (Has.s (Has.s Has.z)))))))) d_int) d_str) n_oi ?_
        refine ds_ifT (t_eqS (r_tag (d_name (Has.s (Has.s (Has.s (Has.s (Has.s (Has.s (Has.s Has.z)))))))) d_int) d_str) y_out ?_
        refine ds_asg (d_sub (d_name (Has.s (Has.s (Has.s (Has.s (Has.s Has.z)))))) (r_a1 (d_name (Has.s (Has.s (Has.s (Has.s (Has.s (Has.s (Has.s Has.z)))))))) d_int)) (Put.s (Put.s (Put.s (Put.s (Put.s Put.z))))) ?_
        refine ds_next (ds_next ?_)
        refine ds_app (d_name (Has.s (Has.s (Has.s (Has.s (Has.s (Has.s Has.z))))))) (d_add (d_ixL (d_name (Has.s (Has.s (Has.s (Has.s (Has.s (Has.s Has.z))))))) (d_neg d_int) (by walk_at "hold")) (d_name (Has.s (Has.s (Has.s (Has.s (Has.s (Has.s (Has.s (Has.s (Has.s Has.z))))))))))) (by walk_at "hold") (by walk_at "swp") (by rw [tab_len]; show _ < 16777216; omega) ?_
        exact ds_turnF (by rw [hs]; walk_at "fg") (by rw [tab_succ (n := i + 1), hl]; simp only [Row.ch, Row.go]; rw [show Hd rows (lw rows j) j i + -n - (Hd rows (lw rows j) j i - n) = 0 by omega]) rfl rfl
      | seen a b =>
        refine ds_ifF (t_eqS (r_tag (d_name (Has.s (Has.s (Has.s (Has.s (Has.s (Has.s (Has.s Has.z)))))))) d_int) d_str) n_si ?_
        refine ds_ifF (t_eqS (r_tag (d_name (Has.s (Has.s (Has.s (Has.s (Has.s (Has.s (Has.s Has.z)))))))) d_int) d_str) n_so ?_
        refine ds_asg (d_max2 d_int (d_sub (d_name (Has.s (Has.s (Has.s (Has.s (Has.s Has.z)))))) (r_a2 (d_name (Has.s (Has.s (Has.s (Has.s (Has.s (Has.s (Has.s Has.z)))))))) d_int rfl)) Bl.max) (Put.s (Put.s (Put.s (Put.s (Put.s (Put.s (Put.s (Put.s (Put.s Put.z))))))))) ?_
        refine ds_asg (d_sub (d_name (Has.s (Has.s (Has.s (Has.s (Has.s Has.z)))))) (d_name (Has.s (Has.s (Has.s (Has.s (Has.s (Has.s (Has.s (Has.s (Has.s Has.z))))))))))) (Put.s (Put.s (Put.s (Put.s (Put.s Put.z))))) ?_
        refine ds_next (ds_next ?_)
        refine ds_app (d_name (Has.s (Has.s (Has.s (Has.s (Has.s (Has.s Has.z))))))) (d_add (d_ixL (d_name (Has.s (Has.s (Has.s (Has.s (Has.s (Has.s Has.z))))))) (d_neg d_int) (by walk_at "hold")) (d_name (Has.s (Has.s (Has.s (Has.s (Has.s (Has.s (Has.s (Has.s (Has.s Has.z))))))))))) (by walk_at "hold") (by walk_at "swp") (by rw [tab_len]; show _ < 16777216; omega) ?_
        exact ds_turnF (by rw [hs]; simp only [Row.go, Row.a2]; rw [show Hd rows (lw rows j) j i - max 0 (Hd rows (lw rows j) j i - b) = min (Hd rows (lw rows j) j i) b by omega]; walk_at "fg") (by rw [tab_succ (n := i + 1), hl]; simp only [Row.ch, Row.go, Row.a2]; rw [show Hd rows (lw rows j) j i + 0 - min (Hd rows (lw rows j) j i) b = max 0 (Hd rows (lw rows j) j i - b) by omega]) rfl rfl
    · rw [e1, List.length_drop]
      refine ds_freeze (Upg.s (Upg.s (Upg.s (Upg.s (Upg.s (Upg.s Upg.z)))))) (by walk_at "tak") ?_
      refine ds_appQ ((fun f : List Int => L I f)) ((lns rows j)) (d_name (Has.s (Has.s Has.z))) (d_name (Has.s (Has.s (Has.s (Has.s (Has.s (Has.s Has.z))))))) rfl (by walk_at "hold") (by walk_at "swp") (by rw [tab_len]; show _ < 16777216; omega) ?_
      exact ds_turnF (by walk_at "fg") (by rw [tab_succ]) rfl rfl
  · rw [show ((rows.length : Int) + 1).toNat = rows.length + 1 by omega]
    refine ds_freeze (Upg.s (Upg.s Upg.z)) (by walk_at "tak") ?_
    refine ds_own0 (n_lstQ (P2) ([]) a_nil) (Put.s (Put.s (Put.s (Put.s Put.z)))) fun l_found => ⟨_, (Put.s (Put.s (Put.s (Put.s Put.z)))), ?_⟩
    refine ds_forF (fun j => ([("rows", some (L Rw rows)), ("lows", some (L I (tab (lw rows) (rows.length + 1)))), ("least", some (L (fun f : List Int => L I f) (tab (lns rows) (rows.length + 1)))), ("j", none), ("found", some (At l_found)), ("held", none), ("line", none), ("row", none), ("k", none), ("cut", none)] : En)) (fun j => [(l_found, Cl P2 (pout (sL rows) rows.length j))]) (i_rng1 (d_len (d_name Has.z) Bl.len) Bl.range) (by walk_at "fg") rfl ?_ ?_
    · rintro B1 hB1 j _ hj rfl
      have hj : j < rows.length := by omega
      refine ⟨_, _, (g_name (Put.s (Put.s (Put.s Put.z)))), ?_⟩
      refine ds_forF (fun m => ([("rows", some (L Rw rows)), ("lows", some (L I (tab (lw rows) (rows.length + 1)))), ("least", some (L (fun f : List Int => L I f) (tab (lns rows) (rows.length + 1)))), ("j", some (I (j : Int))), ("found", some (At l_found)), ("held", none), ("line", none), ("row", none), ("k", none), ("cut", none)] : En)) (fun m => [(l_found, Cl P2 (pout (sL rows) rows.length j ++ pin (sL rows) j m))]) (i_rng2 (d_add (d_name (Has.s (Has.s (Has.s Has.z)))) d_int) (d_add (d_len (d_name Has.z) Bl.len) d_int) Bl.range) (by walk_at "fg") (by unfold pin; rw [List.append_nil]) ?_ ?_
      · rintro B2 hB2 m _ hm rfl
        have hm : j + 1 + m ≤ rows.length := by omega
        have hl1 := pout_len (P := sL rows) (n := rows.length) (j := j)
        have hl2 := pin_len (P := sL rows) (j := j) (m := m)
        have hl3 : j * rows.length ≤ 100 * 100 := Nat.mul_le_mul (by omega) hp
        refine ⟨_, _, (g_name (Put.s (Put.s (Put.s (Put.s (Put.s (Put.s (Put.s (Put.s Put.z))))))))), ?_⟩
        refine ds_if (t_w (v_and (t_gt (d_ixT (Rs := I) (d_ixT (Rs := fun f : List Int => L I f) (f := lns rows) (d_name (Has.s (Has.s Has.z))) (d_name (Has.s (Has.s (Has.s Has.z)))) (j) (by omega) (by omega)) (d_sub (d_name (Has.s (Has.s (Has.s (Has.s (Has.s (Has.s (Has.s (Has.s Has.z))))))))) (d_name (Has.s (Has.s (Has.s Has.z))))) (j + 1 + m - j) (by omega) (by omega)) d_int) (fun h1 => (v_and (t_eqI (d_ixT (Rs := I) (d_ixT (Rs := fun f : List Int => L I f) (f := lns rows) (d_name (Has.s (Has.s Has.z))) (d_name (Has.s (Has.s (Has.s Has.z)))) (j) (by omega) (by omega)) (d_sub (d_sub (d_name (Has.s (Has.s (Has.s (Has.s (Has.s (Has.s (Has.s (Has.s Has.z))))))))) (d_name (Has.s (Has.s (Has.s Has.z))))) d_int) (j + 1 + m - j - 1) (by omega) (by omega)) d_int) (fun h2 => (v_and1 (t_eqI (d_ixT (Rs := I) (d_ixT (Rs := fun f : List Int => L I f) (f := lns rows) (d_name (Has.s (Has.s Has.z))) (d_add (d_name (Has.s (Has.s (Has.s Has.z)))) d_int) (j + 1) (by omega) (by omega)) (d_sub (d_sub (d_name (Has.s (Has.s (Has.s (Has.s (Has.s (Has.s (Has.s (Has.s Has.z))))))))) (d_name (Has.s (Has.s (Has.s Has.z))))) d_int) (j + 1 + m - j - 1) (by omega) (by omega)) d_int))))))) ?_ ?_
        · intro h
          have h : sL rows j (j + 1 + m) = true := h.symm
          refine ds_appQ (P2) (((j : Int), ((j + 1 + m : Nat) : Int))) (d_name (Has.s (Has.s (Has.s (Has.s Has.z))))) (d_tup (a_cons (d_name (Has.s (Has.s (Has.s Has.z)))) (a_cons (d_name (Has.s (Has.s (Has.s (Has.s (Has.s (Has.s (Has.s (Has.s Has.z))))))))) a_nil))) rfl (by walk_at "hold") (by walk_at "swp") (by rw [List.length_append]; show _ < 16777216; omega) ?_
          refine ds_next ?_
          exact ds_turnF (by walk_at "fg") (by rw [List.append_assoc, pin_yes h]) rfl rfl
        · intro h
          have h : sL rows j (j + 1 + m) = false := h.symm
          refine ds_next ?_
          exact ds_turnF (by walk_at "fg") (by rw [pin_no h]) rfl rfl
      · have e : ((rows.length : Int) + 1 - ((j : Int) + 1)).toNat = rows.length - j := by omega
        rw [e]
        exact ds_turnF (by walk_at "fg") rfl rfl rfl
    · rw [show ((rows.length : Int)).toNat = rows.length by omega]
      refine ds_freeze (Upg.s (Upg.s (Upg.s (Upg.s Upg.z)))) (by walk_at "tak") ?_
      exact ds_ret0 hR (d_tuple (d_name (Has.s (Has.s (Has.s (Has.s Has.z))))) Bl.tuple) rfl
end
end K19

set_option maxHeartbeats 2000000
/-! K19j: the pot and what is drawn from it. -/
namespace K19
open PySem PySem.Spec PyProof.Rows L2 ZZ
open Evl (Ex)
local macro_rules | `(tactic| walk_at "has") => `(tactic| (with_reducible first | exact Has.z | exact Has.s Has.z | exact Has.s (Has.s Has.z) | exact Has.s (Has.s (Has.s Has.z)) | exact Has.s (Has.s (Has.s (Has.s Has.z))) | exact Has.s (Has.s (Has.s (Has.s (Has.s Has.z)))) | exact Has.s (Has.s (Has.s (Has.s (Has.s (Has.s Has.z))))) | exact Has.s (Has.s (Has.s (Has.s (Has.s (Has.s (Has.s Has.z))))))))
local macro_rules | `(tactic| walk_at "put") => `(tactic| (with_reducible first | exact Put.z | exact Put.s Put.z | exact Put.s (Put.s Put.z) | exact Put.s (Put.s (Put.s Put.z)) | exact Put.s (Put.s (Put.s (Put.s Put.z))) | exact Put.s (Put.s (Put.s (Put.s (Put.s Put.z)))) | exact Put.s (Put.s (Put.s (Put.s (Put.s (Put.s Put.z))))) | exact Put.s (Put.s (Put.s (Put.s (Put.s (Put.s (Put.s Put.z))))))))
local macro_rules | `(tactic| walk_at "swp") => `(tactic| (with_reducible first | exact Swp.z | exact Swp.s Swp.z | exact Swp.s (Swp.s Swp.z) | exact Swp.s (Swp.s (Swp.s Swp.z)) | exact Swp.s (Swp.s (Swp.s (Swp.s Swp.z))) | exact Swp.s (Swp.s (Swp.s (Swp.s (Swp.s Swp.z)))) | exact Swp.s (Swp.s (Swp.s (Swp.s (Swp.s (Swp.s Swp.z))))) | exact Swp.s (Swp.s (Swp.s (Swp.s (Swp.s (Swp.s (Swp.s Swp.z))))))))
local macro_rules | `(tactic| walk_at "tak") => `(tactic| (with_reducible first | exact Tak.z | exact Tak.s Tak.z | exact Tak.s (Tak.s Tak.z) | exact Tak.s (Tak.s (Tak.s Tak.z)) | exact Tak.s (Tak.s (Tak.s (Tak.s Tak.z))) | exact Tak.s (Tak.s (Tak.s (Tak.s (Tak.s Tak.z)))) | exact Tak.s (Tak.s (Tak.s (Tak.s (Tak.s (Tak.s Tak.z))))) | exact Tak.s (Tak.s (Tak.s (Tak.s (Tak.s (Tak.s (Tak.s Tak.z))))))))
local macro_rules | `(tactic| walk_at "hold") => `(tactic| (with_reducible first | exact Hold.z | exact Hold.s Hold.z | exact Hold.s (Hold.s Hold.z) | exact Hold.s (Hold.s (Hold.s Hold.z)) | exact Hold.s (Hold.s (Hold.s (Hold.s Hold.z))) | exact Hold.s (Hold.s (Hold.s (Hold.s (Hold.s Hold.z)))) | exact Hold.s (Hold.s (Hold.s (Hold.s (Hold.s (Hold.s Hold.z))))) | exact Hold.s (Hold.s (Hold.s (Hold.s (Hold.s (Hold.s (Hold.s Hold.z))))))))
local macro_rules | `(tactic| walk_at "upe") => `(tactic| (with_reducible first | exact UpE.z | exact UpE.s UpE.z | exact UpE.s (UpE.s UpE.z) | exact UpE.s (UpE.s (UpE.s UpE.z)) | exact UpE.s (UpE.s (UpE.s (UpE.s UpE.z))) | exact UpE.s (UpE.s (UpE.s (UpE.s (UpE.s UpE.z)))) | exact UpE.s (UpE.s (UpE.s (UpE.s (UpE.s (UpE.s UpE.z))))) | exact UpE.s (UpE.s (UpE.s (UpE.s (UpE.s (UpE.s (UpE.s UpE.z))))))))
local macro_rules | `(tactic| walk_at "fg") => `(tactic| (repeat (first | exact Fg.nil | (with_reducible refine Fg.keep rfl ?_) | (with_reducible refine Fg.drop ?_))))
local macro_rules | `(tactic| walk_at "nonb") => `(tactic| first | exact nonb_I | exact nonb_No | exact nonb_Bo | exact nonb_S | exact nonb_seq | exact nonb_tup)
local macro_rules | `(tactic| walk_at "istb") => `(tactic| first | exact istb_sc | exact istb_seq | exact istb_tup)

section
variable {M : Mo}
theorem okpot (Bl : Blt M) (P : Pr M "_law_pot" (stm 19) ["script"]) : Gp M 1 "_law_pot" 63 ["script"] := by
  refine P.gp sc__law_pot fun X B0 F0 D ns hn hR => ?_
  dsimp only [mkΓ]
  have e1 : cut ns none (some 63) = ns.take 63 := cut_take (k := 63)
  refine ds_retP (xs := ns.take 63) hR (an_cons d_int (an_cons d_int (an_last (n_lcM (own := [("x", 1)]) (Γw := ([("script", some (_)), ("x", none)] : En)) (blkOk_by (by show blkC nm__law_pot (defScope (stm 19)) _ _ = true; decide +kernel)) (by repeat constructor) (i_seq (d_slK (d_name Has.z) o_none (o_some d_int))) (ns.take 63) (by rw [e1]) ?_ ?_)))) ⟨by decide, by decide⟩
  · show _ < 16777216
    rw [e1, List.length_take]
    omega
  · intro i y z hy hz
    rw [e1] at hy
    rw [hy] at hz
    obtain rfl := Option.some.inj hz
    exact ⟨_, _, (g_name (Put.s Put.z)), by simp, (d_intI (d_name (Has.s Has.z)) Bl.int)⟩
theorem okdr (Bl : Blt M) (P : Pr M "_law_draw" (stm 20) ["pot", "many"]) : Gd M 1 "_law_draw" ["pot", "many"] dr := by
  refine P.gd sc__law_draw (by intro _; rfl) fun X B0 F0 D g hp hR hN => ?_
  obtain ⟨⟨p, q⟩, many⟩ := g
  dsimp only [mkΓ, dr] at hp hR ⊢
  refine ds_asg d_int (Put.s (Put.s Put.z)) ?_
  refine ds_open (l := p) (P := PotP) (C := potA q) (ω' := fun ab => [(p, potA q ab), (q, potQ)]) (fun ab => .z) (fun ab hab => ?_) ⟨(0, 0)⟩
  obtain ⟨a, b⟩ := ab
  obtain ⟨ha1, ha2⟩ : 0 ≤ a ∧ a < 1000003 := hab
  dsimp only [potA]
  refine ds_asg (d_ixOU (d_name Has.z) d_int (by walk_at "hold") rfl) (Put.s (Put.s (Put.s Put.z))) ?_
  refine ds_open (l := q) (P := fun _ : List Int => True) (C := Cl I) (ω' := fun ns => [(p, Cu [I a, I b, At q]), (q, Cl I ns)]) (fun ns => .s .z) (fun ns _ => ?_) ⟨[]⟩
  refine ds_ifJ ([("pot", some (At p)), ("many", some (I many)), ("more", some (Ei (fun _ => True))), ("cells", some (At q)), ("at", none)] : En) [(p, Cu [I a, I b, At q]), (q, potQ)] rfl (t_gt (d_lenO (d_name (Has.s (Has.s (Has.s Has.z)))) (by walk_at "hold") Bl.len) d_int) ?_ ?_ ?_
  · intro h
    have h : (0 : Int) < ns.length := of_decide_eq_true h.symm
    refine ds_asg (d_mod (d_intI (d_ixOU (d_name Has.z) d_int (by walk_at "hold") rfl) Bl.int) (d_lenO (d_name (Has.s (Has.s (Has.s Has.z)))) (by walk_at "hold") Bl.len) (by omega)) (Put.s (Put.s (Put.s (Put.s Put.z)))) ?_
    have m1 := Int.emod_nonneg b (b := (ns.length : Int)) (by omega)
    have m2 := Int.emod_lt_of_pos b h
    obtain ⟨j, hj⟩ := Int.eq_ofNat_of_zero_le m1
    have hj2 : j < ns.length := by omega
    obtain ⟨y, hy⟩ : ∃ y, ns[j]? = some y := ⟨_, List.getElem?_eq_getElem hj2⟩
    refine ds_asg (d_mod (d_intI (d_ixO (d_name (Has.s (Has.s (Has.s Has.z)))) (d_name (Has.s (Has.s (Has.s (Has.s Has.z))))) (by walk_at "hold") (atI_of (j := j) hj hy)) Bl.int) d_int (by decide)) (Put.s (Put.s Put.z)) ?_
    refine ds_seti (d_div (d_ixO (d_name (Has.s (Has.s (Has.s Has.z)))) (d_name (Has.s (Has.s (Has.s (Has.s Has.z))))) (by walk_at "hold") (atI_of (j := j) hj hy)) d_int ⟨by decide, by decide⟩) (d_name (Has.s (Has.s (Has.s Has.z)))) (d_name (Has.s (Has.s (Has.s (Has.s Has.z))))) (j := j) (ixN_of hj hj2) (by walk_at "swp") ?_
    refine ds_close (l := q) (C' := potQ) (.s .z) (fun B o z => ⟨_, trivial, z⟩) ?_
    exact ds_meet (.keep rfl (.keep rfl (.wide (sle_es (R := I) (P := fun _ => True) trivial) (.keep rfl (.drop .nil))))) rfl rfl rfl
  · intro h
    refine ds_close (l := q) (C' := potQ) (.s .z) (fun B o z => ⟨_, trivial, z⟩) ?_
    exact ds_meet (.keep rfl (.keep rfl (.wide (sle_es (R := I) (P := fun _ => True) trivial) (.keep rfl (.drop .nil))))) rfl rfl rfl
  · refine ds_openE (Γ' := fun m => ([("pot", some (At p)), ("many", some (I many)), ("more", some (I m)), ("cells", some (At q)), ("at", none)] : En)) (by walk_at "upe") (fun m _ => ?_)
    refine ds_setU (d_add (d_ixOU (d_name Has.z) d_int (by walk_at "hold") rfl) d_int) (d_name Has.z) d_int (j := 1) rfl (by walk_at "swp") ?_
    refine ds_setU (d_mod (d_intI (d_add (d_add (d_add (d_mul (d_ixOU (d_name Has.z) d_int (by walk_at "hold") rfl) (d_ixOU (d_name Has.z) d_int (by walk_at "hold") rfl) (Or.inl ⟨by omega, by omega⟩)) (d_mul d_int (d_name (Has.s (Has.s Has.z))) (Or.inl ⟨by decide, by decide⟩))) (d_mul d_int (d_ixOU (d_name Has.z) d_int (by walk_at "hold") rfl) (Or.inl ⟨by decide, by decide⟩))) d_int) Bl.int) d_int (by decide)) (d_name Has.z) d_int (j := 0) rfl (by walk_at "swp") ?_
    refine ds_retE hR (d_mod (d_intI (d_div (d_ixOU (d_name Has.z) d_int (by walk_at "hold") rfl) d_int ⟨by decide, by decide⟩) Bl.int) (d_name (Has.s Has.z)) hp.1) ⟨Int.emod_nonneg _ (by omega), Int.emod_lt_of_pos _ hp.1⟩ (fun B H O => O.close .z fun B o z => ?_)
    exact ⟨(_, _), ⟨Int.emod_nonneg _ (by decide), Int.emod_lt_of_pos _ (by decide)⟩, z⟩
end
end K19

set_option maxHeartbeats 2000000
/-! K19k: the drawn rows. -/
namespace K19
open PySem PySem.Spec PyProof.Rows L2 ZZ
open Evl (Ex)
local macro_rules | `(tactic| walk_at "has") => `(tactic| (with_reducible first | exact Has.z | exact Has.s Has.z | exact Has.s (Has.s Has.z) | exact Has.s (Has.s (Has.s Has.z)) | exact Has.s (Has.s (Has.s (Has.s Has.z))) | exact Has.s (Has.s (Has.s (Has.s (Has.s Has.z)))) | exact Has.s (Has.s (Has.s (Has.s (Has.s (Has.s Has.z))))) | exact Has.s (Has.s (Has.s (Has.s (Has.s (Has.s (Has.s Has.z))))))))
local macro_rules | `(tactic| walk_at "put") => `(tactic| (with_reducible first | exact Put.z | exact Put.s Put.z | exact Put.s (Put.s Put.z) | exact Put.s (Put.s (Put.s Put.z)) | exact Put.s (Put.s (Put.s (Put.s Put.z))) | exact Put.s (Put.s (Put.s (Put.s (Put.s Put.z)))) | exact Put.s (Put.s (Put.s (Put.s (Put.s (Put.s Put.z))))) | exact Put.s (Put.s (Put.s (Put.s (Put.s (Put.s (Put.s Put.z))))))))
local macro_rules | `(tactic| walk_at "swp") => `(tactic| (with_reducible first | exact Swp.z | exact Swp.s Swp.z | exact Swp.s (Swp.s Swp.z) | exact Swp.s (Swp.s (Swp.s Swp.z)) | exact Swp.s (Swp.s (Swp.s (Swp.s Swp.z))) | exact Swp.s (Swp.s (Swp.s (Swp.s (Swp.s Swp.z)))) | exact Swp.s (Swp.s (Swp.s (Swp.s (Swp.s (Swp.s Swp.z))))) | exact Swp.s (Swp.s (Swp.s (Swp.s (Swp.s (Swp.s (Swp.s Swp.z))))))))
local macro_rules | `(tactic| walk_at "tak") => `(tactic| (with_reducible first | exact Tak.z | exact Tak.s Tak.z | exact Tak.s (Tak.s Tak.z) | exact Tak.s (Tak.s (Tak.s Tak.z)) | exact Tak.s (Tak.s (Tak.s (Tak.s Tak.z))) | exact Tak.s (Tak.s (Tak.s (Tak.s (Tak.s Tak.z)))) | exact Tak.s (Tak.s (Tak.s (Tak.s (Tak.s (Tak.s Tak.z))))) | exact Tak.s (Tak.s (Tak.s (Tak.s (Tak.s (Tak.s (Tak.s Tak.z))))))))
local macro_rules | `(tactic| walk_at "hold") => `(tactic| (with_reducible first | exact Hold.z | exact Hold.s Hold.z | exact Hold.s (Hold.s Hold.z) | exact Hold.s (Hold.s (Hold.s Hold.z)) | exact Hold.s (Hold.s (Hold.s (Hold.s Hold.z))) | exact Hold.s (Hold.s (Hold.s (Hold.s (Hold.s Hold.z)))) | exact Hold.s (Hold.s (Hold.s (Hold.s (Hold.s (Hold.s Hold.z))))) | exact Hold.s (Hold.s (Hold.s (Hold.s (Hold.s (Hold.s (Hold.s Hold.z))))))))
local macro_rules | `(tactic| walk_at "upe") => `(tactic| (with_reducible first | exact UpE.z | exact UpE.s UpE.z | exact UpE.s (UpE.s UpE.z) | exact UpE.s (UpE.s (UpE.s UpE.z)) | exact UpE.s (UpE.s (UpE.s (UpE.s UpE.z))) | exact UpE.s (UpE.s (UpE.s (UpE.s (UpE.s UpE.z)))) | exact UpE.s (UpE.s (UpE.s (UpE.s (UpE.s (UpE.s UpE.z))))) | exact UpE.s (UpE.s (UpE.s (UpE.s (UpE.s (UpE.s (UpE.s UpE.z))))))))
local macro_rules | `(tactic| walk_at "fg") => `(tactic| (repeat (first | exact Fg.nil | (with_reducible refine Fg.keep rfl ?_) | (with_reducible refine Fg.drop ?_))))
local macro_rules | `(tactic| walk_at "nonb") => `(tactic| first | exact nonb_I | exact nonb_No | exact nonb_Bo | exact nonb_S | exact nonb_seq | exact nonb_tup)
local macro_rules | `(tactic| walk_at "istb") => `(tactic| first | exact istb_sc | exact istb_seq | exact istb_tup)

section
variable {M : Mo}
theorem Wf_add {rs : List Row} {r : Row} (h : Wf rs) (hr : r.Wf) : Wf (rs ++ [r]) := fun x hx => by
  rcases List.mem_append.mp hx with z | z
  · exact h x z
  · rw [List.mem_singleton.mp z]; exact hr
theorem sle_in {P : Int → Prop} : Sle (U [Tx "in", Ei P]) (Es (fun r => ∃ n, P n ∧ r = .inn n) Rw) := fun B v h => by
  obtain ⟨a, vs, rfl, h1, h2⟩ := h
  cases h2 with | cons p h2 => cases h2 with | cons q h2 =>
  obtain ⟨n, hn, q⟩ := q
  cases h2
  exact ⟨.inn n, ⟨n, hn, rfl⟩, a, _, rfl, h1, .cons p (.cons q .nil)⟩
theorem sle_out {P : Int → Prop} : Sle (U [Tx "out", Ei P]) (Es (fun r => ∃ n, P n ∧ r = .out n) Rw) := fun B v h => by
  obtain ⟨a, vs, rfl, h1, h2⟩ := h
  cases h2 with | cons p h2 => cases h2 with | cons q h2 =>
  obtain ⟨n, hn, q⟩ := q
  cases h2
  exact ⟨.out n, ⟨n, hn, rfl⟩, a, _, rfl, h1, .cons p (.cons q .nil)⟩
theorem sle_seen {P : Int → Prop} {l : Int} : Sle (U [Tx "seen", I l, Ei P]) (Es (fun r => ∃ n, P n ∧ r = .seen l n) Rw) := fun B v h => by
  obtain ⟨a, vs, rfl, h1, h2⟩ := h
  cases h2 with | cons p h2 => cases h2 with | cons p2 h2 => cases h2 with | cons q h2 =>
  obtain ⟨n, hn, q⟩ := q
  cases h2
  exact ⟨.seen l n, ⟨n, hn, rfl⟩, a, _, rfl, h1, .cons p (.cons p2 (.cons q .nil))⟩
def rws : Ct (Addr × Addr) := { As := fun g => [At g.1], S := fun g => Es (fun rs => Wf rs ∧ rs.length ≤ 38) (L Rw), ω := fun g => potW g.1 g.2, ω' := fun g => potW g.1 g.2 }
theorem okrws (Bl : Blt M) (P : Pr M "_law_rows" (stm 22) ["pot"]) (Gdr : Gd M 1 "_law_draw" ["pot", "many"] dr) : Gd M 2 "_law_rows" ["pot"] rws := by
  refine P.gd sc__law_rows (by intro _; rfl) fun X B0 F0 D g hp hR hN => ?_
  obtain ⟨p, q⟩ := g
  dsimp only [mkΓ, rws, potW] at hp hR ⊢
  refine ds_asgE (d_draw Gdr (Nat.le_of_ble_eq_true rfl) (d_name Has.z) d_int (by omega)) (Put.s Put.z) fun v_many h_many => ⟨_, (Put.s Put.z), ?_⟩
  refine ds_ifJ ([("pot", some (At p)), ("many", some (Ei (fun m => 0 ≤ m ∧ m ≤ 38))), ("rows", none), ("there", none), ("k", none), ("kind", none), ("wide", none), ("least", none)] : En) [pw p q, qw q] rfl (e_eqI (d_draw Gdr (Nat.le_of_ble_eq_true rfl) (d_name Has.z) d_int (by omega)) (DE.some d_int)) ?_ ?_ ?_
  · intro _
    refine ds_asgE (e_add (DE.some d_int) (d_draw Gdr (Nat.le_of_ble_eq_true rfl) (d_name Has.z) d_int (by omega))) (Put.s Put.z) fun v_many h_many => ⟨_, (Put.s Put.z), ?_⟩
    obtain ⟨_, j, rfl, hj, rfl⟩ := h_many
    exact ds_meet (.keep rfl (.wide (sle_es (R := I) (P := fun m => 0 ≤ m ∧ m ≤ 38) (by omega)) (.keep rfl (.keep rfl (.keep rfl (.keep rfl (.keep rfl (.keep rfl .nil)))))))) rfl rfl rfl
  · intro _
    exact ds_meet (.keep rfl (.wide (sle_es (R := I) (P := fun m => 0 ≤ m ∧ m ≤ 38) (by omega)) (.keep rfl (.keep rfl (.keep rfl (.keep rfl (.keep rfl (.keep rfl .nil)))))))) rfl rfl rfl
  · clear h_many
    clear v_many
    refine ds_openE (Γ' := fun m => ([("pot", some (At p)), ("many", some (I m)), ("rows", none), ("there", none), ("k", none), ("kind", none), ("wide", none), ("least", none)] : En)) (by walk_at "upe") (fun m hm => ?_)
    refine ds_own2 (n_lstQ (Rw) ([]) a_nil) (Put.s (Put.s Put.z)) fun l_rows => ⟨_, (Put.s (Put.s Put.z)), ?_⟩
    refine ds_asg d_int (Put.s (Put.s (Put.s Put.z))) ?_
    refine ds_for (fun i Γ ω => ∃ rs th, Wf rs ∧ rs.length = i ∧ 0 ≤ th ∧ th ≤ 999 * (i : Int) ∧ Γ = ([("pot", some (At p)), ("many", some (I m)), ("rows", some (At l_rows)), ("there", some (I th)), ("k", none), ("kind", none), ("wide", none), ("least", none)] : En) ∧ ω = [pw p q, qw q, (l_rows, Cl Rw rs)]) (i_rng1 (d_name (Has.s Has.z)) Bl.range) (Γ0 := ([("pot", some (At p)), ("many", some (I m)), ("rows", some (At l_rows)), ("there", some (I 0)), ("k", none), ("kind", none), ("wide", none), ("least", none)] : En)) (by walk_at "fg") ⟨[], 0, fun _ h => absurd h (by simp), rfl, by decide, by decide, rfl, rfl⟩ ?_ ?_
    · rintro B1 hB1 i _ _ _ hi rfl ⟨rs, th, hw, hl, ht0, ht1, rfl, rfl⟩ _
      have hi : i < 38 := by omega
      refine ⟨_, _, (g_name (Put.s (Put.s (Put.s (Put.s Put.z))))), ?_⟩
      refine ds_asgE (d_draw Gdr (Nat.le_of_ble_eq_true rfl) (d_name Has.z) d_int (by omega)) (Put.s (Put.s (Put.s (Put.s (Put.s Put.z))))) fun v_kind h_kind => ⟨_, (Put.s (Put.s (Put.s (Put.s (Put.s Put.z))))), ?_⟩
      refine ds_asgE (e_ix (d_lstQ (I) ([3, 20, 999]) (a_cons d_int (a_cons d_int (a_cons d_int a_nil)))) (d_draw Gdr (Nat.le_of_ble_eq_true rfl) (d_name Has.z) d_int (by omega)) (fun k hk => ⟨hk.1, hk.2⟩)) (Put.s (Put.s (Put.s (Put.s (Put.s (Put.s Put.z)))))) fun v_wide h_wide => ⟨_, (Put.s (Put.s (Put.s (Put.s (Put.s (Put.s Put.z)))))), ?_⟩
      have hwide : 3 ≤ v_wide ∧ v_wide ≤ 999 := by
        obtain ⟨k, hk, hy⟩ := h_wide
        obtain rfl | rfl | rfl : k = 0 ∨ k = 1 ∨ k = 2 := by omega
        · cases hy; decide
        · cases hy; decide
        · cases hy; decide
      clear h_wide
      have fin : ∀ (r : Row) (th' : Int) (ω' : Ws) (Γ : En) (D' : Ends), r.Wf → 0 ≤ th' → th' ≤ 999 * ((i + 1 : Nat) : Int) → True := fun _ _ _ _ _ _ _ _ => trivial
      refine ds_if (t_w (v_or (t_lt (d_name (Has.s (Has.s (Has.s (Has.s (Has.s Has.z)))))) d_int) (fun h1 => (v_or1 (t_w (v_and (t_eqI (d_name (Has.s (Has.s (Has.s Has.z)))) d_int) (fun h1 => (v_and1 (t_eqI (d_name (Has.s (Has.s (Has.s (Has.s (Has.s Has.z)))))) d_int))))))))) ?_ ?_
      · intro _
        refine ds_appE (P := fun r : Row => ∃ n, (1 ≤ n ∧ n ≤ 999) ∧ r = .inn n) (d_name (Has.s (Has.s Has.z))) (DE.wide (T := Es (fun r : Row => ∃ n, (1 ≤ n ∧ n ≤ 999) ∧ r = .inn n) Rw) (d_tup (a_cons d_str (a_cons (e_add (DE.some d_int) (d_draw Gdr (Nat.le_of_ble_eq_true rfl) (d_name Has.z) (d_name (Has.s (Has.s (Has.s (Has.s (Has.s (Has.s Has.z))))))) (by omega))) a_nil))) ?_) (by walk_at "hold") (by walk_at "hold") (by rw [hl]; show _ < 16777216; omega) ?_
        · exact fun B v z => by
            obtain ⟨r, ⟨n, ⟨_, j, rfl, hj, rfl⟩, rfl⟩, z⟩ := sle_in B v z
            exact ⟨_, ⟨_, ⟨by omega, by omega⟩, rfl⟩, z⟩
        · rintro _ ⟨n, hn, rfl⟩
          refine ⟨_, by walk_at "swp", ?_⟩
          refine ds_asg (d_add (d_name (Has.s (Has.s (Has.s Has.z)))) (r_a1 (d_ixO (d_name (Has.s (Has.s Has.z))) (d_neg d_int) (by walk_at "hold") (atI_last _ _)) d_int)) (Put.s (Put.s (Put.s Put.z))) ?_
          refine ds_next ?_
          exact ds_turnJ (Γ1 := ([("pot", some (At p)), ("many", some (I m)), ("rows", some (At l_rows)), ("there", some (I (th + n))), ("k", none), ("kind", none), ("wide", none), ("least", none)] : En)) (by walk_at "fg") ⟨rs ++ [.inn n], th + n, Wf_add (r := .inn n) hw hn, by rw [List.length_append, hl]; rfl, by omega, by omega, rfl, rfl⟩ rfl rfl
      · intro h
        refine ds_if (t_eqI (d_name (Has.s (Has.s (Has.s (Has.s (Has.s Has.z)))))) d_int) ?_ ?_
        · intro h2
          have h2 : v_kind = 2 := of_decide_eq_true h2.symm
          subst h2
          have hth : 1 ≤ th := by
            rcases Int.lt_or_le th 1 with z | z
            · obtain rfl : th = 0 := by omega
              revert h
              simp
            · exact z
          refine ds_appE (P := fun r : Row => ∃ n, (1 ≤ n ∧ n ≤ 999 ∧ n ≤ th) ∧ r = .out n) (d_name (Has.s (Has.s Has.z))) (DE.wide (T := Es (fun r : Row => ∃ n, (1 ≤ n ∧ n ≤ 999 ∧ n ≤ th) ∧ r = .out n) Rw) (d_tup (a_cons d_str (a_cons (e_add (DE.some d_int) (d_draw Gdr (Nat.le_of_ble_eq_true rfl) (d_name Has.z) (d_min2 (d_name (Has.s (Has.s (Has.s (Has.s (Has.s (Has.s Has.z))))))) (d_name (Has.s (Has.s (Has.s Has.z)))) Bl.min) (by omega))) a_nil))) ?_) (by walk_at "hold") (by walk_at "hold") (by rw [hl]; show _ < 16777216; omega) ?_
          · exact fun B v z => by
              obtain ⟨r, ⟨n, ⟨_, j, rfl, hj, rfl⟩, rfl⟩, z⟩ := sle_out B v z
              exact ⟨_, ⟨_, ⟨by omega, by omega, by omega⟩, rfl⟩, z⟩
          · rintro _ ⟨n, hn, rfl⟩
            refine ⟨_, by walk_at "swp", ?_⟩
            refine ds_asg (d_sub (d_name (Has.s (Has.s (Has.s Has.z)))) (r_a1 (d_ixO (d_name (Has.s (Has.s Has.z))) (d_neg d_int) (by walk_at "hold") (atI_last _ _)) d_int)) (Put.s (Put.s (Put.s Put.z))) ?_
            refine ds_next (ds_next ?_)
            exact ds_turnJ (Γ1 := ([("pot", some (At p)), ("many", some (I m)), ("rows", some (At l_rows)), ("there", some (I (th - n))), ("k", none), ("kind", none), ("wide", none), ("least", none)] : En)) (by walk_at "fg") ⟨rs ++ [.out n], th - n, Wf_add (r := .out n) hw ⟨hn.1, hn.2.1⟩, by rw [List.length_append, hl]; rfl, by omega, by omega, rfl, rfl⟩ rfl rfl
        · intro h2
          refine ds_ifJ ([("pot", some (At p)), ("many", some (I m)), ("rows", some (At l_rows)), ("there", some (Ei (fun t => 0 ≤ t ∧ t ≤ 999 * (i : Int)))), ("k", none), ("kind", none), ("wide", some (I v_wide)), ("least", none)] : En) [pw p q, qw q, (l_rows, Cl Rw rs)] rfl (e_eqI (d_draw Gdr (Nat.le_of_ble_eq_true rfl) (d_name Has.z) d_int (by omega)) (DE.some d_int)) ?_ ?_ ?_
          · intro _
            refine ds_asgE (e_sub (DE.some (d_name (Has.s (Has.s (Has.s Has.z))))) (e_div (d_draw Gdr (Nat.le_of_ble_eq_true rfl) (d_name Has.z) (d_add (d_name (Has.s (Has.s (Has.s Has.z)))) d_int) (by omega)) (e_add (DE.some d_int) (d_draw Gdr (Nat.le_of_ble_eq_true rfl) (d_name Has.z) d_int (by omega))) ?_)) (Put.s (Put.s (Put.s Put.z))) fun v_there h_there => ⟨_, (Put.s (Put.s (Put.s Put.z))), ?_⟩
            · rintro a _ _ ⟨_, b, rfl, hb, rfl⟩
              exact ⟨by omega, by omega⟩
            · obtain ⟨_, _, rfl, ⟨a, _, ha, ⟨_, b, rfl, hb, rfl⟩, rfl⟩, rfl⟩ := h_there
              have d1 : 0 ≤ a / (1 + b) := Int.ediv_nonneg ha.1 (by omega)
              have d2 : a / (1 + b) ≤ a := Int.ediv_le_self _ ha.1
              exact ds_meet (.keep rfl (.keep rfl (.keep rfl (.wide (sle_es (R := I) (P := fun t => 0 ≤ t ∧ t ≤ 999 * (i : Int)) (by omega)) (.drop (.drop (.keep rfl (.keep rfl .nil)))))))) rfl rfl rfl
          · intro _
            exact ds_meet (.keep rfl (.keep rfl (.keep rfl (.wide (sle_es (R := I) (P := fun t => 0 ≤ t ∧ t ≤ 999 * (i : Int)) (by omega)) (.drop (.drop (.keep rfl (.keep rfl .nil)))))))) rfl rfl rfl
          · refine ds_openE (Γ' := fun t => ([("pot", some (At p)), ("many", some (I m)), ("rows", some (At l_rows)), ("there", some (I t)), ("k", none), ("kind", none), ("wide", some (I v_wide)), ("least", none)] : En)) (by walk_at "upe") (fun t ht => ?_)
            refine ds_asg (d_min2 (d_name (Has.s (Has.s (Has.s Has.z)))) d_int Bl.min) (Put.s (Put.s (Put.s Put.z))) ?_
            refine ds_asgE (e_sub (DE.some (d_name (Has.s (Has.s (Has.s Has.z))))) (d_draw Gdr (Nat.le_of_ble_eq_true rfl) (d_name Has.z) (d_add (d_min2 (d_name (Has.s (Has.s (Has.s Has.z)))) (d_name (Has.s (Has.s (Has.s (Has.s (Has.s (Has.s Has.z))))))) Bl.min) d_int) (by omega))) (Put.s (Put.s (Put.s (Put.s (Put.s (Put.s (Put.s Put.z))))))) fun v_least h_least => ⟨_, (Put.s (Put.s (Put.s (Put.s (Put.s (Put.s (Put.s Put.z))))))), ?_⟩
            obtain ⟨_, d, rfl, hd, rfl⟩ := h_least
            refine ds_appE (P := fun r : Row => ∃ n, (min t 9999 ≤ n ∧ n ≤ 9999) ∧ r = .seen (min t 9999 - d) n) (d_name (Has.s (Has.s Has.z))) (DE.wide (T := Es (fun r : Row => ∃ n, (min t 9999 ≤ n ∧ n ≤ 9999) ∧ r = .seen (min t 9999 - d) n) Rw) (d_tup (a_cons d_str (a_cons (d_name (Has.s (Has.s (Has.s (Has.s (Has.s (Has.s (Has.s Has.z)))))))) (a_cons (e_min2 (DE.some d_int) (e_add (DE.some (d_name (Has.s (Has.s (Has.s Has.z))))) (d_draw Gdr (Nat.le_of_ble_eq_true rfl) (d_name Has.z) (d_name (Has.s (Has.s (Has.s (Has.s (Has.s (Has.s Has.z))))))) (by omega))) Bl.min) a_nil)))) ?_) (by walk_at "hold") (by walk_at "hold") (by rw [hl]; show _ < 16777216; omega) ?_
            · exact fun B v z => by
                obtain ⟨r, ⟨n, ⟨_, _, rfl, ⟨_, j, rfl, hj, rfl⟩, rfl⟩, rfl⟩, z⟩ := sle_seen B v z
                exact ⟨_, ⟨_, ⟨by omega, by omega⟩, rfl⟩, z⟩
            · rintro _ ⟨n, hn, rfl⟩
              refine ⟨_, by walk_at "swp", ?_⟩
              refine ds_next (ds_next ?_)
              exact ds_turnJ (Γ1 := ([("pot", some (At p)), ("many", some (I m)), ("rows", some (At l_rows)), ("there", some (I (min t 9999))), ("k", none), ("kind", none), ("wide", none), ("least", none)] : En)) (by walk_at "fg") ⟨rs ++ [.seen (min t 9999 - d) n], min t 9999, Wf_add (r := .seen (min t 9999 - d) n) hw ⟨by omega, by omega, by omega⟩, by rw [List.length_append, hl]; rfl, by omega, by omega, rfl, rfl⟩ rfl rfl
    · rintro _ _ ⟨rs, th, hw, hl, ht0, ht1, rfl, rfl⟩ _
      refine ds_freeze (Upg.s (Upg.s Upg.z)) (by walk_at "tak") ?_
      refine ds_retE hR (d_name (Has.s (Has.s Has.z))) ⟨hw, by omega⟩ (fun B H O => O)
end
end K19

set_option maxHeartbeats 2000000
/-! K19n: what the program computes answers as the law reads it. -/
namespace K19
open ZZ (tab tab_len tab_succ tab_get tab_get' tab_ext tab_set fst fst_some fst_none fst_no fst_at)
theorem row_at {rows : List Row} {k : Nat} (h : k < rows.length) : ∃ r, rows[k]? = some r := ⟨_, List.getElem?_eq_getElem h⟩
theorem ok_at {rows : List Row} {k : Nat} {r : Row} (h : rows[k]? = some r) : ok rows k = r.okAt (top rows k) := by unfold ok; rw [h]
theorem T_mono {rows : List Row} {k : Nat} (h : k < rows.length) : T rows k ≤ T rows (k + 1) := by
  obtain ⟨r, e⟩ := row_at h
  cases r with
  | inn n => rw [T_other e (fun _ _ z => by cases z)]; omega
  | out n => rw [T_other e (fun _ _ z => by cases z)]; omega
  | seen a b => rw [T_seen e]; omega
theorem T_up {rows : List Row} {j : Nat} : ∀ {d : Nat}, j + d ≤ rows.length → T rows j ≤ T rows (j + d)
  | 0, _ => by rw [Nat.add_zero]; omega
  | d + 1, h => by
    have h1 := T_up (rows := rows) (j := j) (d := d) (by omega)
    have h2 := T_mono (rows := rows) (k := j + d) (by omega)
    rw [← Nat.add_assoc]
    omega
section
variable {rows : List Row} (hw : Wf rows) (hb : bad rows = rows.length)
include hw hb
theorem T_le_M {m : Nat} (hm : m ≤ rows.length) : T rows m ≤ M rows m := by
  cases m with
  | zero => exact Int.le_refl _
  | succ i =>
    obtain ⟨r, e⟩ := row_at (rows := rows) (k := i) (by omega)
    have hc := cn_succ e
    have hn := top_nn hw (k := i) (by omega)
    have ho := bad_before (rows := rows) (k := i) (by omega)
    have w := wf_get hw e
    rw [ok_at e] at ho
    rw [M_succ e, hc]
    unfold top at hn ho
    cases r with
    | inn n => rw [T_other e (fun _ _ z => by cases z)]; simp only [Row.Wf, Row.ch, Row.wb] at *; omega
    | out n => rw [T_other e (fun _ _ z => by cases z)]; simp only [Row.Wf, Row.ch, Row.wb, Row.okAt, decide_eq_true_eq] at *; omega
    | seen a b => rw [T_seen e, hc]; simp only [Row.Wf, Row.ch, Row.wb, Row.okAt, decide_eq_true_eq] at *; omega
theorem T_le_U : ∀ {d k : Nat}, k + d = rows.length → T rows k ≤ U' rows k
  | 0, k, h => by
    obtain rfl : k = rows.length := by omega
    rw [U_last]
    exact T_le_M hw hb (Nat.le_refl _)
  | d + 1, k, h => by
    have ih := T_le_U (d := d) (k := k + 1) (by omega)
    have h1 := T_le_M hw hb (m := k) (by omega)
    have h2 := T_mono (rows := rows) (k := k) (by omega)
    rw [U_prev (by omega)]
    omega
theorem TU {k : Nat} (h : k ≤ rows.length) : T rows k ≤ U' rows k := T_le_U hw hb (d := rows.length - k) (by omega)
omit hb in
theorem Nd_nn : ∀ {d : Nat}, d ≤ rows.length → 0 ≤ Nd rows d
  | 0, _ => Int.le_refl _
  | d + 1, h => by
    obtain ⟨r, e⟩ := row_at (rows := rows) (k := rows.length - 1 - d) (by omega)
    have ih := Nd_nn (d := d) (by omega)
    have w := wf_get hw e
    rw [Nd_succ e]
    cases r <;> simp only [Row.Wf, Row.need] at * <;> omega
omit hb in
theorem Nd_eq : ∀ {d k : Nat}, k + d + 1 = rows.length → Nd rows (d + 1) = cn rows k - U' rows (k + 1)
  | 0, k, h => by
    obtain ⟨r, e⟩ := row_at (rows := rows) (k := k) (by omega)
    have w := wf_get hw e
    have hc := cn_succ e
    rw [Nd_succ (r := r) (by rw [show rows.length - 1 - 0 = k by omega]; exact e), show k + 1 = rows.length by omega, U_last, show rows.length = k + 1 by omega, M_succ e, hc]
    show r.need 0 = _
    cases r <;> simp only [Row.Wf, Row.need, Row.ch, Row.wb] at * <;> omega
  | d + 1, k, h => by
    obtain ⟨r, e⟩ := row_at (rows := rows) (k := k) (by omega)
    have w := wf_get hw e
    have hc := cn_succ e
    have ih := Nd_eq (d := d) (k := k + 1) (by omega)
    have nn := Nd_nn hw (d := d + 1) (by omega)
    rw [Nd_succ (r := r) (by rw [show rows.length - 1 - (d + 1) = k by omega]; exact e), U_prev (k := k + 1) (by omega), M_succ e, ih, hc]
    rw [ih] at nn
    cases r <;> simp only [Row.Wf, Row.need, Row.ch, Row.wb] at * <;> omega
theorem lw_eq {k : Nat} (hk : k ≤ rows.length) : lw rows k = cn rows k - U' rows k := by
  cases k with
  | zero =>
    have h1 := TU hw hb (k := 0) (by omega)
    have h2 : U' rows 0 ≤ M rows 0 := by
      rcases Nat.eq_zero_or_pos rows.length with z | z
      · have := U_last (rows := rows)
        rw [z] at this
        rw [this]
        omega
      · rw [U_prev z]; omega
    have h3 : T rows 0 = 0 := rfl
    have h4 : M rows 0 = 0 := rfl
    rw [cn_zero]
    show (0 : Int) = _
    omega
  | succ k =>
    obtain ⟨r, e⟩ := row_at (rows := rows) (k := k) (by omega)
    have w := wf_get hw e
    have hc := cn_succ e
    rw [lw_succ e]
    rcases Nat.eq_or_lt_of_le hk with z | z
    · rw [show rows.length - 1 - k = 0 by omega, z, U_last, ← z, M_succ e, hc]
      show max r.low 0 = _
      cases r <;> simp only [Row.Wf, Row.low, Row.ch, Row.wb] at * <;> omega
    · obtain ⟨d, hd⟩ : ∃ d, k + 1 + d + 1 = rows.length := ⟨rows.length - (k + 2), by omega⟩
      rw [show rows.length - 1 - k = d + 1 by omega, Nd_eq hw hd, U_prev z, M_succ e, hc]
      cases r <;> simp only [Row.Wf, Row.low, Row.ch, Row.wb] at * <;> omega
theorem Hd_eq {j : Nat} (hj : j ≤ rows.length) : ∀ {i : Nat}, j + i ≤ rows.length → Hd rows (lw rows j) j i = cn rows (j + i) - max (U' rows j) (T rows (j + i))
  | 0, h => by
    have h1 := TU hw hb hj
    show lw rows j = _
    rw [lw_eq hw hb hj, Nat.add_zero]
    omega
  | i + 1, h => by
    obtain ⟨r, e⟩ := row_at (rows := rows) (k := j + i) (by omega)
    have ih := Hd_eq (j := j) hj (i := i) (by omega)
    have hc := cn_succ e
    rw [Hd_succ e, ih, ← Nat.add_assoc, hc]
    cases r with
    | inn n => rw [T_other e (fun _ _ z => by cases z)]; simp only [Row.ch, Row.go]; omega
    | out n => rw [T_other e (fun _ _ z => by cases z)]; simp only [Row.ch, Row.go]; omega
    | seen a b => rw [T_seen e, hc]; simp only [Row.ch, Row.go]; omega
theorem ln_eq {j i : Nat} (h : j + i ≤ rows.length) : ln rows j i = max 0 (T rows (j + i) - U' rows j) := by
  unfold ln
  rw [Hd_eq hw hb (by omega) h, lw_eq hw hb (by omega)]
  omega
theorem cb_yes : cb rows = true := by rw [cb_eq hw]; exact decide_eq_true hb
theorem lr_eq {j k : Nat} (hj : j ≤ k) (hk : k ≤ rows.length) : lr rows j k = some (ll rows j k) := by
  unfold lr
  rw [if_pos (cb_yes hw hb)]
  unfold ll mol
  by_cases e : j = k
  · subst e
    have := TU hw hb hk
    rw [if_pos rfl, if_pos rfl, show max 0 (T rows j - U' rows j) = 0 by omega]
  · rw [if_neg e, if_neg e, ln_eq hw hb (by omega), show j + (k - j) = k by omega, lw_eq hw hb hk]
    unfold top
    rw [show cn rows j - T rows j + (cn rows k - cn rows j) - (cn rows k - U' rows k) = U' rows k - T rows j by omega]
theorem tr_eq {k : Nat} (hk : k ≤ rows.length) : tr rows k = some (lw rows k, top rows k) := by
  unfold tr top
  rw [if_pos (cb_yes hw hb), lw_eq hw hb hk]
theorem sLT {j k : Nat} (hj : j < k) (hk : k ≤ rows.length) : sT rows j k = sL rows j k := by
  have h1 := ln_eq hw hb (j := j) (i := k - j) (by omega)
  have h2 := ln_eq hw hb (j := j) (i := k - j - 1) (by omega)
  have h3 := ln_eq hw hb (j := j + 1) (i := k - j - 1) (by omega)
  rw [show j + (k - j) = k by omega] at h1
  rw [show j + (k - j - 1) = k - 1 by omega] at h2
  rw [show j + 1 + (k - j - 1) = k by omega] at h3
  unfold sT sL
  rw [h1, h2, h3, Bool.eq_iff_iff]
  simp only [Bool.and_eq_true, decide_eq_true_eq]
  omega
end
theorem pin_congr {P Q : Nat → Nat → Bool} {j : Nat} : ∀ {m : Nat}, (∀ i, i < m → P j (j + 1 + i) = Q j (j + 1 + i)) → pin P j m = pin Q j m
  | 0, _ => rfl
  | m + 1, h => by
    unfold pin
    rw [pin_congr (m := m) fun i hi => h i (by omega), h m (by omega)]
theorem pout_congr {P Q : Nat → Nat → Bool} {n : Nat} (h : ∀ j k, j < k → k ≤ n → P j k = Q j k) : ∀ {m : Nat}, m ≤ n → pout P n m = pout Q n m
  | 0, _ => rfl
  | m + 1, hm => by
    unfold pout
    rw [pout_congr h (m := m) (by omega), pin_congr fun i hi => h m (m + 1 + i) (by omega) (by omega)]
theorem sl_eq {rows : List Row} (hw : Wf rows) (hb : bad rows = rows.length) : sl rows = pout (sL rows) rows.length rows.length := by
  unfold sl
  rw [if_pos (cb_yes hw hb)]
  exact pout_congr (fun j k hj hk => sLT hw hb hj hk) (Nat.le_refl _)
/-! ### where it can't be -/
theorem cb_no {rows : List Row} (hw : Wf rows) (hb : ¬ bad rows = rows.length) : cb rows = false := by rw [cb_eq hw]; exact decide_eq_false hb
theorem lr_no {rows : List Row} (hw : Wf rows) (hb : ¬ bad rows = rows.length) {j k : Nat} : lr rows j k = none := by unfold lr; rw [cb_no hw hb]; rfl
theorem tr_no {rows : List Row} (hw : Wf rows) (hb : ¬ bad rows = rows.length) {k : Nat} : tr rows k = none := by unfold tr; rw [cb_no hw hb]; rfl
theorem sl_no {rows : List Row} (hw : Wf rows) (hb : ¬ bad rows = rows.length) : sl rows = [] := by unfold sl; rw [cb_no hw hb]; rfl
/-! ### the first clash -/
theorem go_le {r : Row} {t : Int} : r.go t ≤ t + r.ch := by cases r <;> simp only [Row.go, Row.ch] <;> omega
theorem top_le {rows : List Row} : ∀ {k : Nat}, k ≤ rows.length → ∀ {j : Nat} {t : Int}, j ≤ k → tb rows j = some t → top rows k ≤ t + cn rows k - cn rows j
  | 0, _, j, t, hj, ht => by
    obtain rfl : j = 0 := by omega
    cases ht
    rw [top_zero, cn_zero]
    omega
  | k + 1, hk, j, t, hj, ht => by
    obtain ⟨r, e⟩ := row_at (rows := rows) (k := k) hk
    rw [top_succ e]
    rcases Nat.lt_or_ge j (k + 1) with z | z
    · have ih := top_le (rows := rows) (k := k) (by omega) (j := j) (by omega) ht
      have hg := go_le (r := r) (t := top rows k)
      rw [cn_succ e]
      omega
    · obtain rfl : j = k + 1 := by omega
      cases r with
      | inn n => rw [tb_other e (fun _ _ z => by cases z)] at ht; cases ht
      | out n => rw [tb_other e (fun _ _ z => by cases z)] at ht; cases ht
      | seen a b =>
        rw [tb_seen e] at ht
        cases ht
        simp only [Row.go]
        omega
theorem top_is {rows : List Row} : ∀ {k : Nat}, k ≤ rows.length → ∃ j t, j ≤ k ∧ tb rows j = some t ∧ top rows k = t + cn rows k - cn rows j
  | 0, _ => ⟨0, 0, Nat.le_refl _, rfl, by rw [top_zero, cn_zero]; omega⟩
  | k + 1, hk => by
    obtain ⟨r, e⟩ := row_at (rows := rows) (k := k) hk
    obtain ⟨j, t, h1, h2, h3⟩ := top_is (rows := rows) (k := k) (by omega)
    have hc := cn_succ e
    have ht := top_succ e
    cases r with
    | inn n => exact ⟨j, t, by omega, h2, by rw [ht, hc]; simp only [Row.go, Row.ch]; omega⟩
    | out n => exact ⟨j, t, by omega, h2, by rw [ht, hc]; simp only [Row.go, Row.ch]; omega⟩
    | seen a b =>
      rcases Int.le_total (top rows k) b with z | z
      · exact ⟨j, t, by omega, h2, by rw [ht, hc]; simp only [Row.go, Row.ch]; omega⟩
      · exact ⟨k + 1, b, Nat.le_refl _, tb_seen e, by rw [ht]; simp only [Row.go]; omega⟩
theorem clP_at {rows : List Row} {k j : Nat} {r : Row} {t : Int} (e : rows[k]? = some r) (ht : tb rows j = some t) : clP rows k j = decide (t + cn rows (k + 1) - cn rows j < r.wb) := by simp only [clP, ht, e]
theorem ca_ok {rows : List Row} (hw : Wf rows) {k : Nat} (hk : k < rows.length) (hb : k ≤ bad rows) (ho : ok rows k = true) : ca rows k = none := by
  obtain ⟨r, e⟩ := row_at hk
  refine fst_none fun j hj => ?_
  cases ht : tb rows j with
  | none => simp only [clP, ht]
  | some t =>
    rw [clP_at e ht]
    refine decide_eq_false ?_
    have h1 := top_le (rows := rows) (k := k) (by omega) (by omega) ht
    have h2 := top_nn hw hb
    have w := wf_get hw e
    have hc := cn_succ e
    rw [ok_at e] at ho
    rw [hc]
    cases r <;> simp only [Row.Wf, Row.ch, Row.wb, Row.okAt, decide_eq_true_eq] at * <;> omega
theorem ca_bad {rows : List Row} {k : Nat} (hk : k < rows.length) (ho : ok rows k = false) : ∃ j, ca rows k = some j := by
  obtain ⟨r, e⟩ := row_at hk
  cases h : ca rows k with
  | some j => exact ⟨j, rfl⟩
  | none =>
    exfalso
    obtain ⟨j, t, h1, h2, h3⟩ := top_is (rows := rows) (k := k) (by omega)
    have q := fst_no h (j := j) (by omega)
    rw [clP_at e h2] at q
    have q := of_decide_eq_false q
    have hc := cn_succ e
    rw [ok_at e] at ho
    rw [hc] at q
    cases r with
    | inn n => cases ho
    | out n => simp only [Row.okAt, decide_eq_false_iff_not, Row.ch, Row.wb] at *; omega
    | seen a b => simp only [Row.okAt, decide_eq_false_iff_not, Row.ch, Row.wb] at *; omega
theorem cl_fine {rows : List Row} (hw : Wf rows) (hb : bad rows = rows.length) : cl rows = none := by
  unfold cl
  rw [fst_none fun k hk => by
    unfold clP2
    rw [ca_ok hw hk (by omega) (bad_before (by omega))]
    rfl]
  rfl
theorem cl_bad {rows : List Row} (hw : Wf rows) (hb : ¬ bad rows = rows.length) : cl rows = lc rows (bad rows) ∧ ∃ x, lc rows (bad rows) = some x := by
  have hl : bad rows < rows.length := Nat.lt_of_le_of_ne bad_le hb
  obtain ⟨j, hj⟩ := ca_bad hl (bad_at hl)
  refine ⟨?_, by unfold lc; rw [hj]; exact ⟨_, rfl⟩⟩
  unfold cl
  rw [fst_some (k := bad rows) (fun i hi => by
    unfold clP2
    rw [ca_ok hw (by omega) (by omega) (bad_before hi)]
    rfl) (by unfold clP2; rw [hj]; rfl) hl]
  rfl
/-! ### a sighting set between -/
def ins (rows : List Row) (j : Nat) (x : Int) : List Row := rows.take j ++ [.seen x x] ++ rows.drop j
end K19

set_option maxHeartbeats 2000000
/-! K19o: spoilt rows; the law's word on a list of rows. -/
namespace K19
open PySem PySem.Spec PyProof.Rows L2 ZZ
open Evl (Ex)
local macro_rules | `(tactic| walk_at "has") => `(tactic| (with_reducible first | exact Has.z | exact Has.s Has.z | exact Has.s (Has.s Has.z) | exact Has.s (Has.s (Has.s Has.z)) | exact Has.s (Has.s (Has.s (Has.s Has.z))) | exact Has.s (Has.s (Has.s (Has.s (Has.s Has.z)))) | exact Has.s (Has.s (Has.s (Has.s (Has.s (Has.s Has.z))))) | exact Has.s (Has.s (Has.s (Has.s (Has.s (Has.s (Has.s Has.z))))))))
local macro_rules | `(tactic| walk_at "put") => `(tactic| (with_reducible first | exact Put.z | exact Put.s Put.z | exact Put.s (Put.s Put.z) | exact Put.s (Put.s (Put.s Put.z)) | exact Put.s (Put.s (Put.s (Put.s Put.z))) | exact Put.s (Put.s (Put.s (Put.s (Put.s Put.z)))) | exact Put.s (Put.s (Put.s (Put.s (Put.s (Put.s Put.z))))) | exact Put.s (Put.s (Put.s (Put.s (Put.s (Put.s (Put.s Put.z))))))))
local macro_rules | `(tactic| walk_at "swp") => `(tactic| (with_reducible first | exact Swp.z | exact Swp.s Swp.z | exact Swp.s (Swp.s Swp.z) | exact Swp.s (Swp.s (Swp.s Swp.z)) | exact Swp.s (Swp.s (Swp.s (Swp.s Swp.z))) | exact Swp.s (Swp.s (Swp.s (Swp.s (Swp.s Swp.z)))) | exact Swp.s (Swp.s (Swp.s (Swp.s (Swp.s (Swp.s Swp.z))))) | exact Swp.s (Swp.s (Swp.s (Swp.s (Swp.s (Swp.s (Swp.s Swp.z))))))))
local macro_rules | `(tactic| walk_at "tak") => `(tactic| (with_reducible first | exact Tak.z | exact Tak.s Tak.z | exact Tak.s (Tak.s Tak.z) | exact Tak.s (Tak.s (Tak.s Tak.z)) | exact Tak.s (Tak.s (Tak.s (Tak.s Tak.z))) | exact Tak.s (Tak.s (Tak.s (Tak.s (Tak.s Tak.z)))) | exact Tak.s (Tak.s (Tak.s (Tak.s (Tak.s (Tak.s Tak.z))))) | exact Tak.s (Tak.s (Tak.s (Tak.s (Tak.s (Tak.s (Tak.s Tak.z))))))))
local macro_rules | `(tactic| walk_at "hold") => `(tactic| (with_reducible first | exact Hold.z | exact Hold.s Hold.z | exact Hold.s (Hold.s Hold.z) | exact Hold.s (Hold.s (Hold.s Hold.z)) | exact Hold.s (Hold.s (Hold.s (Hold.s Hold.z))) | exact Hold.s (Hold.s (Hold.s (Hold.s (Hold.s Hold.z)))) | exact Hold.s (Hold.s (Hold.s (Hold.s (Hold.s (Hold.s Hold.z))))) | exact Hold.s (Hold.s (Hold.s (Hold.s (Hold.s (Hold.s (Hold.s Hold.z))))))))
local macro_rules | `(tactic| walk_at "upe") => `(tactic| (with_reducible first | exact UpE.z | exact UpE.s UpE.z | exact UpE.s (UpE.s UpE.z) | exact UpE.s (UpE.s (UpE.s UpE.z)) | exact UpE.s (UpE.s (UpE.s (UpE.s UpE.z))) | exact UpE.s (UpE.s (UpE.s (UpE.s (UpE.s UpE.z)))) | exact UpE.s (UpE.s (UpE.s (UpE.s (UpE.s (UpE.s UpE.z))))) | exact UpE.s (UpE.s (UpE.s (UpE.s (UpE.s (UpE.s (UpE.s UpE.z))))))))
local macro_rules | `(tactic| walk_at "fg") => `(tactic| (repeat (first | exact Fg.nil | (with_reducible refine Fg.keep rfl ?_) | (with_reducible refine Fg.drop ?_))))
local macro_rules | `(tactic| walk_at "nonb") => `(tactic| first | exact nonb_I | exact nonb_No | exact nonb_Bo | exact nonb_S | exact nonb_seq | exact nonb_tup)
local macro_rules | `(tactic| walk_at "istb") => `(tactic| first | exact istb_sc | exact istb_seq | exact istb_tup)

section
variable {M : Mo}
theorem Wf_take {rows : List Row} (h : Wf rows) (k : Nat) : Wf (rows.take k) := fun r hr => h r (List.mem_of_mem_take hr)
theorem Wf_drop {rows : List Row} (h : Wf rows) (k : Nat) : Wf (rows.drop k) := fun r hr => h r (List.mem_of_mem_drop hr)
theorem Wf_app {rows rs : List Row} (h : Wf rows) (h' : Wf rs) : Wf (rows ++ rs) := fun r hr => (List.mem_append.mp hr).elim (h r) (h' r)
theorem Wf_set {rows : List Row} (h : Wf rows) {k : Nat} {r : Row} (hr : r.Wf) : Wf (rows.set k r) := fun x hx => by
  rcases List.mem_or_eq_of_mem_set hx with z | rfl
  · exact h x z
  · exact hr
def spl : Ct ((Addr × Addr) × List Row) := { As := fun g => [At g.1.1, L Rw g.2], pre := fun g => Wf g.2 ∧ g.2.length ≤ 38, S := fun g => Es (fun rs => Wf rs ∧ rs.length ≤ 38) (L Rw), ω := fun g => potW g.1.1 g.1.2, ω' := fun g => potW g.1.1 g.1.2 }
theorem okspl (Bl : Blt M) (P : Pr M "_law_spoilt" (stm 30) ["pot", "rows"]) (Gdr : Gd M 1 "_law_draw" ["pot", "many"] dr) (F2 : Gd M 1 "_law_tops" ["rows"] f2) : Gd M 2 "_law_spoilt" ["pot", "rows"] spl := by
  refine P.gd sc__law_spoilt (by intro _; rfl) fun X B0 F0 D g hp hR hN => ?_
  obtain ⟨⟨p, q⟩, rows⟩ := g
  dsimp only [mkΓ, spl, potW] at hp hR ⊢
  obtain ⟨hw, hl⟩ := hp
  refine ds_own2 (n_list (d_name (Has.s Has.z)) Bl.list) (Put.s (Put.s Put.z)) fun l_turned => ⟨_, (Put.s (Put.s Put.z)), ?_⟩
  refine ds_if (R := fun b => b = false → 0 < rows.length) (t_w (v_orR (R2' := fun _ => True) (t_eqI (d_len (d_name (Has.s Has.z)) Bl.len) d_int) (fun h => v_or1 (DT.wide (e_neI (d_draw Gdr (Nat.le_of_ble_eq_true rfl) (d_name Has.z) d_int (by omega)) (DE.some d_int)) (fun _ _ => trivial))) (fun _ h => nomatch h) (fun b h _ _ => ?_))) ?_ ?_
  · have h : ¬ (rows.length : Int) = 0 := of_decide_eq_false h.symm
    omega
  · intro _
    refine ds_freeze (Upg.s (Upg.s Upg.z)) (by walk_at "tak") ?_
    exact ds_retE hR (d_name (Has.s (Has.s Has.z))) ⟨hw, hl⟩ (fun B H O => O)
  · intro h
    have h0 : 0 < rows.length := h rfl
    refine ds_next ?_
    refine ds_asgE (d_draw Gdr (Nat.le_of_ble_eq_true rfl) (d_name Has.z) (d_len (d_name (Has.s Has.z)) Bl.len) (by omega)) (Put.s (Put.s (Put.s Put.z))) fun v_k h_k => ⟨_, (Put.s (Put.s (Put.s Put.z))), ?_⟩
    obtain ⟨j, rfl⟩ := Int.eq_ofNat_of_zero_le h_k.1
    have hj : j < rows.length := by omega
    have e1 : cut rows none (some (j : Int)) = rows.take j := cut_take
    have tl : (rows.take j).length ≤ 100 := by rw [List.length_take]; omega
    refine ds_asgE (e_add (DE.some (d_ix (d_call0 (t := f2) (rows.take j) F2 (Nat.le_of_ble_eq_true rfl) (a_cons (d_sl (d_name (Has.s Has.z)) o_none (o_some (d_name (Has.s (Has.s (Has.s Has.z)))))) a_nil) (by rw [e1]; rfl) tl) (d_neg d_int) tab_last)) (d_draw Gdr (Nat.le_of_ble_eq_true rfl) (d_name Has.z) d_int (by omega))) (Put.s (Put.s (Put.s (Put.s Put.z)))) fun v_wants h_wants => ⟨_, (Put.s (Put.s (Put.s (Put.s Put.z)))), ?_⟩
    have t0 := top_nn (Wf_take hw j) (Nat.le_refl (bad (rows.take j)))
    have hwants : 0 ≤ v_wants := by
      obtain ⟨_, _, rfl, h2, rfl⟩ := h_wants
      omega
    clear h_wants
    refine ds_if (R := fun b => b = true → 1 ≤ v_wants ∧ v_wants ≤ 999) (t_w (v_andR (R2' := fun b => b = true → v_wants ≤ 999) (t_le d_int (d_name (Has.s (Has.s (Has.s (Has.s Has.z)))))) (fun h => v_andR (R2' := fun _ => True) (t_le (d_name (Has.s (Has.s (Has.s (Has.s Has.z))))) d_int) (fun h => v_and1 (DT.wide (e_eqI (d_draw Gdr (Nat.le_of_ble_eq_true rfl) (d_name Has.z) d_int (by omega)) (DE.some d_int)) (fun _ _ => trivial))) (fun _ h => nomatch h) (fun b h _ _ => of_decide_eq_true h.symm)) (fun _ h => nomatch h) (fun b h h2 hb => ⟨of_decide_eq_true h.symm, h2 hb⟩))) ?_ ?_
    · intro h
      have h := h rfl
      refine ds_seti (Rs := Rw) (y := Row.out v_wants) (DE.eqS (d_tup (a_cons d_str (a_cons (d_name (Has.s (Has.s (Has.s (Has.s Has.z))))) a_nil))) rfl) (d_name (Has.s (Has.s Has.z))) (d_name (Has.s (Has.s (Has.s Has.z)))) (j := j) (ixN_of rfl hj) (by walk_at "swp") ?_
      refine ds_next ?_
      refine ds_freeze (Upg.s (Upg.s Upg.z)) (by walk_at "tak") ?_
      exact ds_retE hR (d_name (Has.s (Has.s Has.z))) ⟨Wf_set hw h, by rw [List.length_set]; exact hl⟩ (fun B H O => O)
    · intro _
      refine ds_asg (d_min2 d_int (d_name (Has.s (Has.s (Has.s (Has.s Has.z))))) Bl.min) (Put.s (Put.s (Put.s (Put.s (Put.s Put.z))))) ?_
      refine ds_setiE (P := fun r : Row => ∃ n, (min 9999 v_wants ≤ n ∧ n ≤ 9999) ∧ r = .seen (min 9999 v_wants) n) (DE.wide (T := Es (fun r : Row => ∃ n, (min 9999 v_wants ≤ n ∧ n ≤ 9999) ∧ r = .seen (min 9999 v_wants) n) Rw) (d_tup (a_cons d_str (a_cons (d_name (Has.s (Has.s (Has.s (Has.s (Has.s Has.z)))))) (a_cons (e_min2 (DE.some d_int) (e_add (DE.some (d_name (Has.s (Has.s (Has.s (Has.s (Has.s Has.z))))))) (d_draw Gdr (Nat.le_of_ble_eq_true rfl) (d_name Has.z) d_int (by omega))) Bl.min) a_nil)))) ?_) (d_name (Has.s (Has.s Has.z))) (d_name (Has.s (Has.s (Has.s Has.z)))) (j := j) (ixN_of rfl hj) ?_
      · exact fun B v z => by
          obtain ⟨r, ⟨n, ⟨_, _, rfl, ⟨_, d, rfl, hd, rfl⟩, rfl⟩, rfl⟩, z⟩ := sle_seen B v z
          exact ⟨_, ⟨_, ⟨by omega, by omega⟩, rfl⟩, z⟩
      · rintro _ ⟨n, hn, rfl⟩
        refine ⟨_, by walk_at "swp", ?_⟩
        refine ds_next ?_
        refine ds_freeze (Upg.s (Upg.s Upg.z)) (by walk_at "tak") ?_
        exact ds_retE hR (d_name (Has.s (Has.s Has.z))) ⟨Wf_set hw ⟨by omega, by omega, by omega⟩, by rw [List.length_set]; exact hl⟩ (fun B H O => O)
/-! ### the law's word -/
def Row.d : Row → PyData
  | .inn n => .tuple [.str "in", .int n]
  | .out n => .tuple [.str "out", .int n]
  | .seen a b => .tuple [.str "seen", .int a, .int b]
theorem isd_row (r : Row) : IsD (Rw r) r.d := by
  cases r with
  | inn n => exact isd_U (.cons isd_str (.cons isd_int .nil))
  | out n => exact isd_U (.cons isd_str (.cons isd_int .nil))
  | seen a b => exact isd_U (.cons isd_str (.cons isd_int (.cons isd_int .nil)))
theorem lay_row (r : Row) : r.d.canLay0 = true := by
  cases r <;> simp only [Row.d, PyData.canLay0, PyData.canLayAll0, Bool.and_true] <;> decide +kernel
theorem dep_row (r : Row) : r.d.depth ≤ 1 := by
  cases r <;> simp only [Row.d, PyData.depth, PyData.depthAll] <;> decide
theorem lay_rows : ∀ rows : List Row, PyData.canLayAll0 (rows.map Row.d) = true
  | [] => by simp only [List.map_nil, PyData.canLayAll0]
  | r :: rs => by simp only [List.map_cons, PyData.canLayAll0, lay_row r, lay_rows rs, Bool.and_true]
theorem dep_rows : ∀ rows : List Row, PyData.depthAll (rows.map Row.d) ≤ 1
  | [] => by simp only [List.map_nil, PyData.depthAll]; omega
  | r :: rs => by
    have h1 := dep_row r
    have h2 := dep_rows rs
    simp only [List.map_cons, PyData.depthAll]
    omega
theorem lay_list (rows : List Row) : PyData.canLay0 (.list (rows.map Row.d)) = true := by simp only [PyData.canLay0]; exact lay_rows rows
theorem shp_rows (rows : List Row) : SeqAt.shaped (.list (rows.map Row.d)) = true := by
  unfold SeqAt.shaped
  rw [lay_list, Bool.true_and]
  refine decide_eq_true ?_
  have := dep_rows rows
  simp only [PyData.depth]
  omega
theorem d_eqRows {c : Cc} {Γ : En} {ω ω1 ω2 : Ws} {a b : Expr} {pos : Pos} {rows : List Row} (ha : DE c Γ ω a (L Rw rows) ω1) (hb : DE c Γ ω1 b (L Rw rows) ω2) : DE c Γ ω (.Compare a [.Eq] [b] pos) (Bo true) ω2 :=
  DE.eqS (d_eqD ha hb (isd_seq isd_row) (isd_seq isd_row) (shp_rows rows) (shp_rows rows)) (congrArg Bo (PySem.SeqAt.eqv_refl _ (lay_list rows)))
def sN : Ct Unit := { As := fun _ => [No, No], S := fun _ => Bo true }
def sP : Ct (Int × Int) := { As := fun x => [P2 x, P2 x], S := fun _ => Bo true }
def Mom (rows : List Row) (x : Int × Int) : Prop := 0 ≤ x.1 ∧ x.1 ≤ x.2 ∧ x.2 ≤ rows.length
def rgt : Ct ((List Row × List (Int × Int)) × Bool) := { As := fun g => [L Rw g.1.1, L P2 g.1.2, Sq g.2 Rw g.1.1], pre := fun g => Wf g.1.1 ∧ g.1.1.length ≤ 100 ∧ ∀ x ∈ g.1.2, Mom g.1.1 x, S := fun _ => Bo true }
theorem okrgt (Bl : Blt M) (P : Pr M "_law_right" (stm 29) ["rows", "moments", "handed"]) (F2 : Gd M 1 "_law_tops" ["rows"] f2) (F3 : Gd M 1 "_law_lows" ["rows"] f3) (F4 : Gd M 2 "_law_first_clash" ["rows", "k"] f4) (F5 : Gd M 2 "_law_lost" ["rows", "j", "k", "lows", "tops"] f5) (F6 : Gd M 1 "_law_sure" ["rows", "lows"] f6) (F1 : Gd M 1 "_law_moved" ["rows", "j", "k"] f1)
    (G3 : Gd M 2 "book_count" ["rows", "k"] c3) (G9 : Gd M 5 "can_be" ["rows"] c9) (G12 : Gd M 4 "clash" ["rows"] c12) (G15 : Gd M 6 "lost_range" ["rows", "j", "k"] c15) (G16 : Gd M 6 "there_range" ["rows", "k"] c16) (G17 : Gd M 6 "sure_losses" ["rows"] c17)
    (GB : Gd M 1 "_law_same" ["told", "due"] sB) (GI : Gd M 1 "_law_same" ["told", "due"] sI) (GN : Gd M 1 "_law_same" ["told", "due"] sN) (GP : Gd M 2 "_law_same" ["told", "due"] sP) (GQ : Gd M 3 "_law_same" ["told", "due"] sQ) : Gd M 7 "_law_right" ["rows", "moments", "handed"] rgt := by
  refine P.gd sc__law_right (by intro _; rfl) fun X B0 F0 D g hp hR hN => ?_
  obtain ⟨⟨rows, ms⟩, bb⟩ := g
  dsimp only [mkΓ, rgt] at hp hR ⊢
  obtain ⟨hw, hl, hm⟩ := hp
  refine ds_asg (d_call0 (t := f2) (rows) F2 (Nat.le_of_ble_eq_true rfl) (a_cons (d_name Has.z) a_nil) rfl hl) (Put.s (Put.s (Put.s Put.z))) ?_
  by_cases hb : bad rows = rows.length
  · refine ds_asg (DE.eqS (T := Bo true) (d_eqI (d_len (d_name (Has.s (Has.s (Has.s Has.z)))) Bl.len) (d_add (d_len (d_name Has.z) Bl.len) d_int)) (congrArg Bo (decide_eq_true (by rw [tab_len]; omega)))) (Put.s (Put.s (Put.s (Put.s Put.z)))) ?_
    refine ds_asg (d_lstQ I [] a_nil) (Put.s (Put.s (Put.s (Put.s (Put.s Put.z))))) ?_
    refine ds_asg d_none (Put.s (Put.s (Put.s (Put.s (Put.s (Put.s Put.z)))))) ?_
    refine ds_ifT (t_val (d_name (Has.s (Has.s (Has.s (Has.s Has.z)))))) rfl ?_
    refine ds_asg (d_call0 (t := f3) (rows) F3 (Nat.le_of_ble_eq_true rfl) (a_cons (d_name Has.z) a_nil) rfl hl) (Put.s (Put.s (Put.s (Put.s (Put.s Put.z))))) ?_
    refine ds_next ?_
    have e0 : tab (K19.top rows) (bad rows + 1) = tab (K19.top rows) (rows.length + 1) := by rw [hb]
    refine ds_ifF (t_w (v_or (k := false) (l := false)
      (t_notD (t_val (d_call0 (t := sB) (true) GB (Nat.le_of_ble_eq_true rfl) (a_cons (d_call0 (t := c9) ((bb, rows)) G9 (Nat.le_of_ble_eq_true rfl) (a_cons (d_name (Has.s (Has.s Has.z))) a_nil) rfl hl) (a_cons (d_name (Has.s (Has.s (Has.s (Has.s Has.z))))) a_nil)) (by show [Bo (cb rows), Bo true] = _; rw [cb_yes hw hb]; rfl) trivial))) (fun _ => v_or1
        (t_notD (t_val (d_call0 (t := sN) (()) GN (Nat.le_of_ble_eq_true rfl) (a_cons (d_call0 (t := c12) ((bb, rows)) G12 (Nat.le_of_ble_eq_true rfl) (a_cons (d_name (Has.s (Has.s Has.z))) a_nil) rfl hl) (a_cons (d_name (Has.s (Has.s (Has.s (Has.s (Has.s (Has.s Has.z))))))) a_nil)) (by show [Opp (cl rows), No] = _; rw [cl_fine hw hb]; rfl) trivial)))))) rfl (ds_next ?_)
    refine ds_forF (fun _ => ([("rows", some (L Rw rows)), ("moments", some (L P2 ms)), ("handed", some (Sq bb Rw rows)), ("tops", some (L I (tab (K19.top rows) (bad rows + 1)))), ("fine", some (Bo true)), ("lows", some (L I (tab (lw rows) (rows.length + 1)))), ("due", some (No)), ("j", none), ("k", none), ("between", none), ("there", none), ("sure", none)] : En)) (fun _ => []) (i_seq (d_name (Has.s Has.z))) (by walk_at "fg") rfl ?_ ?_
    · rintro B1 hB1 i ⟨y1, y2⟩ hi hy
      have hR := hR.mono hB1
      obtain ⟨m1, m2, m3⟩ := hm _ (List.mem_of_getElem? hy)
      dsimp only at m1 m2 m3
      obtain ⟨j, rfl⟩ := Int.eq_ofNat_of_zero_le m1
      obtain ⟨k, rfl⟩ := Int.eq_ofNat_of_zero_le (Int.le_trans m1 m2)
      have hj : j ≤ k := by omega
      have hk : k ≤ rows.length := by omega
      refine ⟨_, _, (g_two (g_name (Put.s (Put.s (Put.s (Put.s (Put.s (Put.s (Put.s Put.z)))))))) (g_name (Put.s (Put.s (Put.s (Put.s (Put.s (Put.s (Put.s (Put.s Put.z)))))))))), ?_⟩
      dsimp only
      refine ds_ifF (t_notD (t_val (d_call0 (t := sI) (cn rows k) GI (Nat.le_of_ble_eq_true rfl) (a_cons (d_call0 (t := c3) (((bb, rows), k)) G3 (Nat.le_of_ble_eq_true rfl) (a_cons (d_name (Has.s (Has.s Has.z))) (a_cons (d_name (Has.s (Has.s (Has.s (Has.s (Has.s (Has.s (Has.s (Has.s Has.z))))))))) a_nil)) rfl hl) (a_cons (d_call0 (t := f1) ((rows, 0, k)) F1 (Nat.le_of_ble_eq_true rfl) (a_cons (d_name Has.z) (a_cons d_int (a_cons (d_name (Has.s (Has.s (Has.s (Has.s (Has.s (Has.s (Has.s (Has.s Has.z))))))))) a_nil))) rfl ⟨Nat.zero_le _, hk⟩) a_nil)) (by show [I (cn rows k), I (cn rows k - cn rows 0)] = _; rw [cn_zero, Int.sub_zero]; rfl) trivial))) rfl (ds_next ?_)
      refine ds_asg d_none (Put.s (Put.s (Put.s (Put.s (Put.s (Put.s (Put.s (Put.s (Put.s Put.z))))))))) ?_
      refine ds_asg d_none (Put.s (Put.s (Put.s (Put.s (Put.s (Put.s (Put.s (Put.s (Put.s (Put.s Put.z)))))))))) ?_
      refine ds_ifT (t_val (d_name (Has.s (Has.s (Has.s (Has.s Has.z)))))) rfl ?_
      refine ds_asg (d_call0 (t := f5) ((rows, j, k)) F5 (Nat.le_of_ble_eq_true rfl) (a_cons (d_name Has.z) (a_cons (d_name (Has.s (Has.s (Has.s (Has.s (Has.s (Has.s (Has.s Has.z)))))))) (a_cons (d_name (Has.s (Has.s (Has.s (Has.s (Has.s (Has.s (Has.s (Has.s Has.z))))))))) (a_cons (d_name (Has.s (Has.s (Has.s (Has.s (Has.s Has.z)))))) (a_cons (d_name (Has.s (Has.s (Has.s Has.z)))) a_nil))))) (by rw [e0]; rfl) ⟨hj, hk⟩) (Put.s (Put.s (Put.s (Put.s (Put.s (Put.s (Put.s (Put.s (Put.s Put.z))))))))) ?_
      refine ds_asg (d_tup (a_cons (d_ixT (Rs := I) (d_name (Has.s (Has.s (Has.s (Has.s (Has.s Has.z)))))) (d_name (Has.s (Has.s (Has.s (Has.s (Has.s (Has.s (Has.s (Has.s Has.z))))))))) k rfl (by omega)) (a_cons (d_ixT (Rs := I) (d_name (Has.s (Has.s (Has.s Has.z)))) (d_name (Has.s (Has.s (Has.s (Has.s (Has.s (Has.s (Has.s (Has.s Has.z))))))))) k rfl (by omega)) a_nil))) (Put.s (Put.s (Put.s (Put.s (Put.s (Put.s (Put.s (Put.s (Put.s (Put.s Put.z)))))))))) ?_
      refine ds_next ?_
      refine ds_ifF (t_w (v_or (k := false) (l := false)
        (t_notD (t_val (d_call0 (t := sP) (ll rows j k) GP (Nat.le_of_ble_eq_true rfl) (a_cons (d_call0 (t := c15) (((bb, rows), j, k)) G15 (Nat.le_of_ble_eq_true rfl) (a_cons (d_name (Has.s (Has.s Has.z))) (a_cons (d_name (Has.s (Has.s (Has.s (Has.s (Has.s (Has.s (Has.s Has.z)))))))) (a_cons (d_name (Has.s (Has.s (Has.s (Has.s (Has.s (Has.s (Has.s (Has.s Has.z))))))))) a_nil))) rfl ⟨hj, hk, hl⟩) (a_cons (d_name (Has.s (Has.s (Has.s (Has.s (Has.s (Has.s (Has.s (Has.s (Has.s Has.z)))))))))) a_nil)) (by show [Opp (lr rows j k), P2 (ll rows j k)] = _; rw [lr_eq hw hb hj hk]; rfl) trivial))) (fun _ => v_or1
          (t_notD (t_val (d_call0 (t := sP) ((lw rows k, K19.top rows k)) GP (Nat.le_of_ble_eq_true rfl) (a_cons (d_call0 (t := c16) (((bb, rows), k)) G16 (Nat.le_of_ble_eq_true rfl) (a_cons (d_name (Has.s (Has.s Has.z))) (a_cons (d_name (Has.s (Has.s (Has.s (Has.s (Has.s (Has.s (Has.s (Has.s Has.z))))))))) a_nil)) rfl ⟨hk, hl⟩) (a_cons (d_name (Has.s (Has.s (Has.s (Has.s (Has.s (Has.s (Has.s (Has.s (Has.s (Has.s Has.z))))))))))) a_nil)) (by show [Opp (tr rows k), P2 (lw rows k, K19.top rows k)] = _; rw [tr_eq hw hb hk]; rfl) trivial)))))) rfl (ds_next ?_)
      exact ds_turnF (by walk_at "fg") rfl rfl rfl
    · refine ds_ifJ ([("rows", some (L Rw rows)), ("moments", some (L P2 ms)), ("handed", some (Sq bb Rw rows)), ("tops", none), ("fine", none), ("lows", none), ("due", none), ("j", none), ("k", none), ("between", none), ("there", none), ("sure", none)] : En) [] rfl (t_le (d_len (d_name Has.z) Bl.len) d_int) ?_ ?_ ?_
      · intro _
        refine ds_asg (d_tup a_nil) (Put.s (Put.s (Put.s (Put.s (Put.s (Put.s (Put.s (Put.s (Put.s (Put.s (Put.s Put.z))))))))))) ?_
        refine ds_ifT (t_val (d_name (Has.s (Has.s (Has.s (Has.s Has.z)))))) rfl ?_
        refine ds_asg (d_call0 (t := f6) (rows) F6 (Nat.le_of_ble_eq_true rfl) (a_cons (d_name Has.z) (a_cons (d_name (Has.s (Has.s (Has.s (Has.s (Has.s Has.z)))))) a_nil)) rfl hl) (Put.s (Put.s (Put.s (Put.s (Put.s (Put.s (Put.s (Put.s (Put.s (Put.s (Put.s Put.z))))))))))) ?_
        refine ds_next ?_
        refine ds_ifF (t_notD (t_val (d_call0 (t := sQ) (pout (sL rows) rows.length rows.length) GQ (Nat.le_of_ble_eq_true rfl) (a_cons (d_call0 (t := c17) ((bb, rows)) G17 (Nat.le_of_ble_eq_true rfl) (a_cons (d_name (Has.s (Has.s Has.z))) a_nil) rfl hl) (a_cons (d_name (Has.s (Has.s (Has.s (Has.s (Has.s (Has.s (Has.s (Has.s (Has.s (Has.s (Has.s Has.z)))))))))))) a_nil)) (by show [Sq false P2 (sl rows), Sq false P2 _] = _; rw [sl_eq hw hb]; rfl) (Nat.le_trans pout_len (Nat.le_trans (Nat.mul_le_mul hl hl) (by decide)))))) rfl (ds_next ?_)
        exact ds_meet (by walk_at "fg") rfl rfl rfl
      · intro _
        exact ds_meet (by walk_at "fg") rfl rfl rfl
      · exact ds_ret0 hR (d_eqRows (d_list (d_name (Has.s (Has.s Has.z))) Bl.list) (d_name Has.z)) rfl
  · have hlt : bad rows < rows.length := Nat.lt_of_le_of_ne bad_le hb
    obtain ⟨hcl, x, hx⟩ := cl_bad hw hb
    refine ds_asg (DE.eqS (T := Bo false) (d_eqI (d_len (d_name (Has.s (Has.s (Has.s Has.z)))) Bl.len) (d_add (d_len (d_name Has.z) Bl.len) d_int)) (congrArg Bo (decide_eq_false (by rw [tab_len]; omega)))) (Put.s (Put.s (Put.s (Put.s Put.z)))) ?_
    refine ds_asg (d_lstQ I [] a_nil) (Put.s (Put.s (Put.s (Put.s (Put.s Put.z))))) ?_
    refine ds_asg d_none (Put.s (Put.s (Put.s (Put.s (Put.s (Put.s Put.z)))))) ?_
    refine ds_ifF (t_val (d_name (Has.s (Has.s (Has.s (Has.s Has.z)))))) rfl ?_
    refine ds_asg (DE.eqS (T := P2 x) (d_call0 (t := f4) ((rows, bad rows)) F4 (Nat.le_of_ble_eq_true rfl) (a_cons (d_name Has.z) (a_cons (d_sub (d_len (d_name (Has.s (Has.s (Has.s Has.z)))) Bl.len) d_int) a_nil)) (by rw [tab_len, show ((bad rows + 1 : Nat) : Int) - 1 = (bad rows : Int) by omega]; rfl) ⟨hlt, hl⟩) (by show Opp (lc rows (bad rows)) = _; rw [hx]; rfl)) (Put.s (Put.s (Put.s (Put.s (Put.s (Put.s Put.z)))))) ?_
    refine ds_next ?_
    refine ds_ifF (t_w (v_or (k := false) (l := false)
      (t_notD (t_val (d_call0 (t := sB) (false) GB (Nat.le_of_ble_eq_true rfl) (a_cons (d_call0 (t := c9) ((bb, rows)) G9 (Nat.le_of_ble_eq_true rfl) (a_cons (d_name (Has.s (Has.s Has.z))) a_nil) rfl hl) (a_cons (d_name (Has.s (Has.s (Has.s (Has.s Has.z))))) a_nil)) (by show [Bo (cb rows), Bo false] = _; rw [cb_no hw hb]; rfl) trivial))) (fun _ => v_or1
        (t_notD (t_val (d_call0 (t := sP) (x) GP (Nat.le_of_ble_eq_true rfl) (a_cons (d_call0 (t := c12) ((bb, rows)) G12 (Nat.le_of_ble_eq_true rfl) (a_cons (d_name (Has.s (Has.s Has.z))) a_nil) rfl hl) (a_cons (d_name (Has.s (Has.s (Has.s (Has.s (Has.s (Has.s Has.z))))))) a_nil)) (by show [Opp (cl rows), P2 x] = _; rw [hcl, hx]; rfl) trivial)))))) rfl (ds_next ?_)
    refine ds_forF (fun _ => ([("rows", some (L Rw rows)), ("moments", some (L P2 ms)), ("handed", some (Sq bb Rw rows)), ("tops", some (L I (tab (K19.top rows) (bad rows + 1)))), ("fine", some (Bo false)), ("lows", some (L I [])), ("due", some (P2 x)), ("j", none), ("k", none), ("between", none), ("there", none), ("sure", none)] : En)) (fun _ => []) (i_seq (d_name (Has.s Has.z))) (by walk_at "fg") rfl ?_ ?_
    · rintro B1 hB1 i ⟨y1, y2⟩ hi hy
      have hR := hR.mono hB1
      obtain ⟨m1, m2, m3⟩ := hm _ (List.mem_of_getElem? hy)
      dsimp only at m1 m2 m3
      obtain ⟨j, rfl⟩ := Int.eq_ofNat_of_zero_le m1
      obtain ⟨k, rfl⟩ := Int.eq_ofNat_of_zero_le (Int.le_trans m1 m2)
      have hj : j ≤ k := by omega
      have hk : k ≤ rows.length := by omega
      refine ⟨_, _, (g_two (g_name (Put.s (Put.s (Put.s (Put.s (Put.s (Put.s (Put.s Put.z)))))))) (g_name (Put.s (Put.s (Put.s (Put.s (Put.s (Put.s (Put.s (Put.s Put.z)))))))))), ?_⟩
      dsimp only
      refine ds_ifF (t_notD (t_val (d_call0 (t := sI) (cn rows k) GI (Nat.le_of_ble_eq_true rfl) (a_cons (d_call0 (t := c3) (((bb, rows), k)) G3 (Nat.le_of_ble_eq_true rfl) (a_cons (d_name (Has.s (Has.s Has.z))) (a_cons (d_name (Has.s (Has.s (Has.s (Has.s (Has.s (Has.s (Has.s (Has.s Has.z))))))))) a_nil)) rfl hl) (a_cons (d_call0 (t := f1) ((rows, 0, k)) F1 (Nat.le_of_ble_eq_true rfl) (a_cons (d_name Has.z) (a_cons d_int (a_cons (d_name (Has.s (Has.s (Has.s (Has.s (Has.s (Has.s (Has.s (Has.s Has.z))))))))) a_nil))) rfl ⟨Nat.zero_le _, hk⟩) a_nil)) (by show [I (cn rows k), I (cn rows k - cn rows 0)] = _; rw [cn_zero, Int.sub_zero]; rfl) trivial))) rfl (ds_next ?_)
      refine ds_asg d_none (Put.s (Put.s (Put.s (Put.s (Put.s (Put.s (Put.s (Put.s (Put.s Put.z))))))))) ?_
      refine ds_asg d_none (Put.s (Put.s (Put.s (Put.s (Put.s (Put.s (Put.s (Put.s (Put.s (Put.s Put.z)))))))))) ?_
      refine ds_ifF (t_val (d_name (Has.s (Has.s (Has.s (Has.s Has.z)))))) rfl (ds_next ?_)
      refine ds_ifF (t_w (v_or (k := false) (l := false)
        (t_notD (t_val (d_call0 (t := sN) (()) GN (Nat.le_of_ble_eq_true rfl) (a_cons (d_call0 (t := c15) (((bb, rows), j, k)) G15 (Nat.le_of_ble_eq_true rfl) (a_cons (d_name (Has.s (Has.s Has.z))) (a_cons (d_name (Has.s (Has.s (Has.s (Has.s (Has.s (Has.s (Has.s Has.z)))))))) (a_cons (d_name (Has.s (Has.s (Has.s (Has.s (Has.s (Has.s (Has.s (Has.s Has.z))))))))) a_nil))) rfl ⟨hj, hk, hl⟩) (a_cons (d_name (Has.s (Has.s (Has.s (Has.s (Has.s (Has.s (Has.s (Has.s (Has.s Has.z)))))))))) a_nil)) (by show [Opp (lr rows j k), No] = _; rw [lr_no hw hb]; rfl) trivial))) (fun _ => v_or1
          (t_notD (t_val (d_call0 (t := sN) (()) GN (Nat.le_of_ble_eq_true rfl) (a_cons (d_call0 (t := c16) (((bb, rows), k)) G16 (Nat.le_of_ble_eq_true rfl) (a_cons (d_name (Has.s (Has.s Has.z))) (a_cons (d_name (Has.s (Has.s (Has.s (Has.s (Has.s (Has.s (Has.s (Has.s Has.z))))))))) a_nil)) rfl ⟨hk, hl⟩) (a_cons (d_name (Has.s (Has.s (Has.s (Has.s (Has.s (Has.s (Has.s (Has.s (Has.s (Has.s Has.z))))))))))) a_nil)) (by show [Opp (tr rows k), No] = _; rw [tr_no hw hb]; rfl) trivial)))))) rfl (ds_next ?_)
      exact ds_turnF (by walk_at "fg") rfl rfl rfl
    · refine ds_ifJ ([("rows", some (L Rw rows)), ("moments", some (L P2 ms)), ("handed", some (Sq bb Rw rows)), ("tops", none), ("fine", none), ("lows", none), ("due", none), ("j", none), ("k", none), ("between", none), ("there", none), ("sure", none)] : En) [] rfl (t_le (d_len (d_name Has.z) Bl.len) d_int) ?_ ?_ ?_
      · intro _
        refine ds_asg (DE.wide (d_tup a_nil) (sle_tup (R := P2) (xs := []))) (Put.s (Put.s (Put.s (Put.s (Put.s (Put.s (Put.s (Put.s (Put.s (Put.s (Put.s Put.z))))))))))) ?_
        refine ds_ifF (t_val (d_name (Has.s (Has.s (Has.s (Has.s Has.z)))))) rfl (ds_next ?_)
        refine ds_ifF (t_notD (t_val (d_call0 (t := sQ) ([]) GQ (Nat.le_of_ble_eq_true rfl) (a_cons (d_call0 (t := c17) ((bb, rows)) G17 (Nat.le_of_ble_eq_true rfl) (a_cons (d_name (Has.s (Has.s Has.z))) a_nil) rfl hl) (a_cons (d_name (Has.s (Has.s (Has.s (Has.s (Has.s (Has.s (Has.s (Has.s (Has.s (Has.s (Has.s Has.z)))))))))))) a_nil)) (by show [Sq false P2 (sl rows), Sq false P2 []] = _; rw [sl_no hw hb]; rfl) (Nat.zero_le _)))) rfl (ds_next ?_)
        exact ds_meet (by walk_at "fg") rfl rfl rfl
      · intro _
        exact ds_meet (by walk_at "fg") rfl rfl rfl
      · exact ds_ret0 hR (d_eqRows (d_list (d_name (Has.s (Has.s Has.z))) Bl.list) (d_name Has.z)) rfl
end
end K19

set_option maxHeartbeats 2000000
/-! K19p: a sighting set between; rows cut off. -/
namespace K19
open ZZ (tab tab_len tab_succ tab_get tab_get' tab_ext tab_set fst fst_some fst_none fst_no fst_at)
theorem U_le_M {rows : List Row} {k : Nat} (hk : k ≤ rows.length) : U' rows k ≤ M rows k := by
  rcases Nat.lt_or_ge k rows.length with z | z
  · rw [U_prev z]; omega
  · obtain rfl : k = rows.length := by omega
    rw [U_last]; omega
theorem U_mono {rows : List Row} {k : Nat} (hk : k < rows.length) : U' rows k ≤ U' rows (k + 1) := by rw [U_prev hk]; omega
theorem T_ge {rows : List Row} {k : Nat} {a b : Int} (e : rows[k]? = some (.seen a b)) : cn rows (k + 1) - b ≤ T rows (k + 1) := by rw [T_seen e]; omega
section
variable {rows : List Row} {j : Nat} {x : Int} (hj : j ≤ rows.length)
include hj
theorem ins_len : (ins rows j x).length = rows.length + 1 := by unfold ins; simp; omega
theorem ins_lt {i : Nat} (h : i < j) : (ins rows j x)[i]? = rows[i]? := by
  unfold ins
  rw [List.getElem?_append_left (by simp; omega), List.getElem?_append_left (by simp; omega), List.getElem?_take_of_lt h]
theorem ins_at : (ins rows j x)[j]? = some (.seen x x) := by
  unfold ins
  rw [List.getElem?_append_left (by simp; omega), List.getElem?_append_right (by rw [List.length_take]; omega)]
  simp [Nat.min_eq_left hj]
theorem ins_gt {i : Nat} : (ins rows j x)[j + 1 + i]? = rows[j + i]? := by
  unfold ins
  rw [List.getElem?_append_right (by simp; omega), List.getElem?_drop]
  congr 1
  simp [Nat.min_eq_left hj]
theorem ins_top_lt : ∀ {i : Nat}, i ≤ j → top (ins rows j x) i = top rows i
  | 0, _ => by rw [top_zero, top_zero]
  | i + 1, h => by
    obtain ⟨r, e⟩ := row_at (rows := rows) (k := i) (by omega)
    rw [top_succ e, top_succ (r := r) (by rw [ins_lt hj (by omega)]; exact e), ins_top_lt (by omega)]
theorem ins_top_at (hx : x ≤ top rows j) : top (ins rows j x) (j + 1) = x := by
  rw [top_succ (ins_at hj), ins_top_lt hj (Nat.le_refl j)]
  simp only [Row.go]
  omega
theorem ins_cn_lt : ∀ {i : Nat}, i ≤ j → cn (ins rows j x) i = cn rows i
  | 0, _ => by rw [cn_zero, cn_zero]
  | i + 1, h => by
    obtain ⟨r, e⟩ := row_at (rows := rows) (k := i) (by omega)
    rw [cn_succ e, cn_succ (r := r) (by rw [ins_lt hj (by omega)]; exact e), ins_cn_lt (by omega)]
theorem ins_cn_at : cn (ins rows j x) (j + 1) = cn rows j := by
  rw [cn_succ (ins_at hj), ins_cn_lt hj (Nat.le_refl j)]
  simp only [Row.ch]
  omega
theorem ins_wf (hw : Wf rows) (h0 : 0 ≤ x) (h1 : x ≤ 9999) : Wf (ins rows j x) := by
  unfold ins
  exact Wf_app (Wf_app (Wf_take hw j) (fun r hr => by rw [List.mem_singleton.mp hr]; exact ⟨h0, by omega, h1⟩)) (Wf_drop hw j)
theorem ins_step (hw : Wf rows) (hb : bad rows = rows.length) (h2 : x ≤ top rows j) (h3 : lw rows j ≤ x) : ∀ {i : Nat}, j + i ≤ rows.length → cn rows (j + i) - U' rows (j + i) ≤ top (ins rows j x) (j + 1 + i)
  | 0, h => by
    rw [Nat.add_zero, Nat.add_zero, ins_top_at hj h2, ← lw_eq hw hb hj]
    exact h3
  | i + 1, h => by
    obtain ⟨r, e⟩ := row_at (rows := rows) (k := j + i) (by omega)
    have ih := ins_step hw hb h2 h3 (i := i) (by omega)
    have hm := U_mono (rows := rows) (k := j + i) (by omega)
    have hc := cn_succ e
    rw [← Nat.add_assoc, ← Nat.add_assoc, top_succ (r := r) (by rw [ins_gt hj]; exact e), hc]
    cases r with
    | inn n => simp only [Row.go, Row.ch]; omega
    | out n => simp only [Row.go, Row.ch]; omega
    | seen a b =>
      have h4 := T_ge e
      have h5 := TU hw hb (k := j + i + 1) (by omega)
      rw [hc] at h4
      simp only [Row.go, Row.ch] at *
      omega
theorem ins_fine (hw : Wf rows) (hb : bad rows = rows.length) (h2 : x ≤ top rows j) (h3 : lw rows j ≤ x) : bad (ins rows j x) = (ins rows j x).length := by
  refine bad_all fun i hi => ?_
  rw [ins_len hj] at hi
  rcases Nat.lt_trichotomy i j with z | z | z
  · obtain ⟨r, e⟩ := row_at (rows := rows) (k := i) (by omega)
    have h := bad_before (rows := rows) (k := i) (by omega)
    rw [ok_at e] at h
    rw [ok_at (r := r) (by rw [ins_lt hj z]; exact e), ins_top_lt hj (by omega)]
    exact h
  · subst z
    rw [ok_at (ins_at hj), ins_top_lt hj (Nat.le_refl i)]
    exact decide_eq_true h2
  · obtain ⟨d, rfl⟩ : ∃ d, i = j + 1 + d := ⟨i - (j + 1), by omega⟩
    obtain ⟨r, e⟩ := row_at (rows := rows) (k := j + d) (by omega)
    have h := ins_step hj hw hb h2 h3 (i := d) (by omega)
    have hm := U_mono (rows := rows) (k := j + d) (by omega)
    have hM := U_le_M (rows := rows) (k := j + d + 1) (by omega)
    have hc := cn_succ e
    rw [M_succ e, hc] at hM
    rw [ok_at (r := r) (by rw [ins_gt hj]; exact e)]
    cases r with
    | inn n => rfl
    | out n => refine decide_eq_true ?_; simp only [Row.ch, Row.wb] at *; omega
    | seen a b => refine decide_eq_true ?_; simp only [Row.ch, Row.wb] at *; omega
end
/-- at a sighting of one number, what was lost is told -/
theorem pin_TU {rows : List Row} (hw : Wf rows) (hb : bad rows = rows.length) {k : Nat} {a : Int} (e : rows[k]? = some (.seen a a)) : T rows (k + 1) = cn rows (k + 1) - a ∧ U' rows (k + 1) = cn rows (k + 1) - a := by
  have hk : k < rows.length := (List.getElem?_eq_some_iff.mp e).1
  have h1 := T_ge e
  have h2 := TU hw hb (k := k + 1) hk
  have h3 := U_le_M (rows := rows) (k := k + 1) hk
  have hc := cn_succ e
  rw [M_succ e] at h3
  simp only [Row.ch, Row.wb] at *
  omega
theorem two_pins {one : List Row} (hw : Wf one) (hb : bad one = one.length) {k j : Nat} {a x : Int} (e : one[k]? = some (.seen a a)) (hkj : k + 1 ≤ j) (hj : j ≤ one.length) (h0 : 0 ≤ x) (h1 : x ≤ 9999) (h2 : x ≤ top one j) (h3 : lw one j ≤ x) :
    lr (ins one j x) (k + 1) (j + 1) = some (a + (cn one j - cn one (k + 1)) - x, a + (cn one j - cn one (k + 1)) - x) := by
  have w2 := ins_wf hj hw h0 h1
  have b2 := ins_fine hj hw hb h2 h3
  have e1 : (ins one j x)[k]? = some (.seen a a) := by rw [ins_lt hj (by omega)]; exact e
  obtain ⟨p1, p2⟩ := pin_TU w2 b2 e1
  obtain ⟨q1, q2⟩ := pin_TU w2 b2 (ins_at hj)
  have c1 := ins_cn_lt (x := x) hj (i := k + 1) hkj
  have c2 := ins_cn_at (x := x) hj
  have up := T_up (rows := ins one j x) (j := k + 1) (d := j - k) (by rw [ins_len hj]; omega)
  rw [show k + 1 + (j - k) = j + 1 by omega] at up
  unfold lr mol
  rw [if_pos (cb_yes w2 b2), if_neg (by omega)]
  rw [c2] at q1 q2
  rw [c1] at p1 p2
  rw [p1, q1] at up
  rw [p1, p2, q1, q2, show cn one j - x - (cn one (k + 1) - a) = a + (cn one j - cn one (k + 1)) - x by omega, show max 0 (a + (cn one j - cn one (k + 1)) - x) = a + (cn one j - cn one (k + 1)) - x by omega]
/-! ### rows cut off -/
theorem take_top {rows : List Row} {k : Nat} (hk : k ≤ rows.length) : ∀ {i : Nat}, i ≤ k → top (rows.take k) i = top rows i
  | 0, _ => by rw [top_zero, top_zero]
  | i + 1, h => by
    obtain ⟨r, e⟩ := row_at (rows := rows) (k := i) (by omega)
    rw [top_succ e, top_succ (r := r) (by rw [List.getElem?_take_of_lt (by omega)]; exact e), take_top hk (by omega)]
theorem take_bad {rows : List Row} : bad (rows.take (bad rows)) = bad rows := by
  have hk : (rows.take (bad rows)).length = bad rows := by rw [List.length_take]; have := bad_le (rows := rows); omega
  conv => rhs; rw [← hk]
  refine bad_all fun i hi => ?_
  rw [hk] at hi
  obtain ⟨r, e⟩ := row_at (rows := rows) (k := i) (by have := bad_le (rows := rows); omega)
  have h := bad_before hi
  rw [ok_at e] at h
  rw [ok_at (r := r) (by rw [List.getElem?_take_of_lt hi]; exact e), take_top bad_le (by omega)]
  exact h
theorem take_len {rows : List Row} : (rows.take (bad rows)).length = bad rows := by rw [List.length_take]; have := bad_le (rows := rows); omega
/-- not more than all that came in -/
theorem top_max {rows : List Row} (hw : Wf rows) : ∀ {k : Nat}, k ≤ rows.length → top rows k ≤ 999 * (k : Int)
  | 0, _ => by rw [top_zero]; omega
  | k + 1, h => by
    obtain ⟨r, e⟩ := row_at (rows := rows) (k := k) (by omega)
    have ih := top_max hw (k := k) (by omega)
    have w := wf_get hw e
    rw [top_succ e]
    cases r <;> simp only [Row.Wf, Row.go] at * <;> omega
theorem lw_nn {rows : List Row} (hw : Wf rows) {k : Nat} (hk : k ≤ rows.length) : 0 ≤ lw rows k := by
  cases k with
  | zero => exact Int.le_refl _
  | succ k =>
    obtain ⟨r, e⟩ := row_at (rows := rows) (k := k) (by omega)
    have w := wf_get hw e
    have := Nd_nn hw (d := rows.length - 1 - k) (by omega)
    rw [lw_succ e]
    omega
theorem lw_le {rows : List Row} (hw : Wf rows) (hb : bad rows = rows.length) {k : Nat} (hk : k ≤ rows.length) : lw rows k ≤ top rows k := by
  have := TU hw hb hk
  rw [lw_eq hw hb hk]
  unfold top
  omega
end K19

set_option maxHeartbeats 2000000
/-! K19q: two pins, grown rows, the law. -/
namespace K19
open PySem PySem.Spec PyProof.Rows L2 ZZ
open Evl (Ex)
local macro_rules | `(tactic| walk_at "has") => `(tactic| (with_reducible first | exact Has.z | exact Has.s Has.z | exact Has.s (Has.s Has.z) | exact Has.s (Has.s (Has.s Has.z)) | exact Has.s (Has.s (Has.s (Has.s Has.z))) | exact Has.s (Has.s (Has.s (Has.s (Has.s Has.z)))) | exact Has.s (Has.s (Has.s (Has.s (Has.s (Has.s Has.z))))) | exact Has.s (Has.s (Has.s (Has.s (Has.s (Has.s (Has.s Has.z))))))))
local macro_rules | `(tactic| walk_at "put") => `(tactic| (with_reducible first | exact Put.z | exact Put.s Put.z | exact Put.s (Put.s Put.z) | exact Put.s (Put.s (Put.s Put.z)) | exact Put.s (Put.s (Put.s (Put.s Put.z))) | exact Put.s (Put.s (Put.s (Put.s (Put.s Put.z)))) | exact Put.s (Put.s (Put.s (Put.s (Put.s (Put.s Put.z))))) | exact Put.s (Put.s (Put.s (Put.s (Put.s (Put.s (Put.s Put.z))))))))
local macro_rules | `(tactic| walk_at "swp") => `(tactic| (with_reducible first | exact Swp.z | exact Swp.s Swp.z | exact Swp.s (Swp.s Swp.z) | exact Swp.s (Swp.s (Swp.s Swp.z)) | exact Swp.s (Swp.s (Swp.s (Swp.s Swp.z))) | exact Swp.s (Swp.s (Swp.s (Swp.s (Swp.s Swp.z)))) | exact Swp.s (Swp.s (Swp.s (Swp.s (Swp.s (Swp.s Swp.z))))) | exact Swp.s (Swp.s (Swp.s (Swp.s (Swp.s (Swp.s (Swp.s Swp.z))))))))
local macro_rules | `(tactic| walk_at "tak") => `(tactic| (with_reducible first | exact Tak.z | exact Tak.s Tak.z | exact Tak.s (Tak.s Tak.z) | exact Tak.s (Tak.s (Tak.s Tak.z)) | exact Tak.s (Tak.s (Tak.s (Tak.s Tak.z))) | exact Tak.s (Tak.s (Tak.s (Tak.s (Tak.s Tak.z)))) | exact Tak.s (Tak.s (Tak.s (Tak.s (Tak.s (Tak.s Tak.z))))) | exact Tak.s (Tak.s (Tak.s (Tak.s (Tak.s (Tak.s (Tak.s Tak.z))))))))
local macro_rules | `(tactic| walk_at "hold") => `(tactic| (with_reducible first | exact Hold.z | exact Hold.s Hold.z | exact Hold.s (Hold.s Hold.z) | exact Hold.s (Hold.s (Hold.s Hold.z)) | exact Hold.s (Hold.s (Hold.s (Hold.s Hold.z))) | exact Hold.s (Hold.s (Hold.s (Hold.s (Hold.s Hold.z)))) | exact Hold.s (Hold.s (Hold.s (Hold.s (Hold.s (Hold.s Hold.z))))) | exact Hold.s (Hold.s (Hold.s (Hold.s (Hold.s (Hold.s (Hold.s Hold.z))))))))
local macro_rules | `(tactic| walk_at "upe") => `(tactic| (with_reducible first | exact UpE.z | exact UpE.s UpE.z | exact UpE.s (UpE.s UpE.z) | exact UpE.s (UpE.s (UpE.s UpE.z)) | exact UpE.s (UpE.s (UpE.s (UpE.s UpE.z))) | exact UpE.s (UpE.s (UpE.s (UpE.s (UpE.s UpE.z)))) | exact UpE.s (UpE.s (UpE.s (UpE.s (UpE.s (UpE.s UpE.z))))) | exact UpE.s (UpE.s (UpE.s (UpE.s (UpE.s (UpE.s (UpE.s UpE.z))))))))
local macro_rules | `(tactic| walk_at "fg") => `(tactic| (repeat (first | exact Fg.nil | (with_reducible refine Fg.keep rfl ?_) | (with_reducible refine Fg.drop ?_))))
local macro_rules | `(tactic| walk_at "nonb") => `(tactic| first | exact nonb_I | exact nonb_No | exact nonb_Bo | exact nonb_S | exact nonb_seq | exact nonb_tup)
local macro_rules | `(tactic| walk_at "istb") => `(tactic| first | exact istb_sc | exact istb_seq | exact istb_tup)

section
variable {M : Mo}
theorem cut_t {rows : List Row} {j : Nat} : (cut rows none (some (j : Int))).length ≤ rows.length := by rw [cut_take, List.length_take]; omega
theorem cut_d {rows : List Row} {j : Nat} : (cut rows (some (j : Int)) none).length ≤ rows.length := by rw [cut_drop, List.length_drop]; omega
theorem cut_ins {rows : List Row} {j : Nat} {x : Int} : cut rows none (some (j : Int)) ++ [Row.seen x x] ++ cut rows (some (j : Int)) none = ins rows j x := by rw [cut_take, cut_drop]; rfl
def tpn : Ct ((Addr × Addr) × (List Row × (Nat × Int))) := { As := fun g => [At g.1.1, L Rw g.2.1, I (g.2.2.1 : Int)], pre := fun g => Wf g.2.1 ∧ g.2.1.length ≤ 60 ∧ g.2.1[g.2.2.1]? = some (.seen g.2.2.2 g.2.2.2), S := fun _ => Bo true, ω := fun g => potW g.1.1 g.1.2, ω' := fun g => potW g.1.1 g.1.2 }
theorem oktpn (Bl : Blt M) (P : Pr M "_law_two_pins" (stm 31) ["pot", "one", "k"]) (Gdr : Gd M 1 "_law_draw" ["pot", "many"] dr) (F2 : Gd M 1 "_law_tops" ["rows"] f2) (F3 : Gd M 1 "_law_lows" ["rows"] f3) (F1 : Gd M 1 "_law_moved" ["rows", "j", "k"] f1) (G15 : Gd M 6 "lost_range" ["rows", "j", "k"] c15) (GR : Gd M 7 "_law_right" ["rows", "moments", "handed"] rgt) (GP : Gd M 2 "_law_same" ["told", "due"] sP) : Gd M 8 "_law_two_pins" ["pot", "one", "k"] tpn := by
  refine P.gd sc__law_two_pins (by intro _; rfl) fun X B0 F0 D g hp hR hN => ?_
  obtain ⟨⟨p, q⟩, one, k, a⟩ := g
  dsimp only [mkΓ, tpn, potW] at hp hR ⊢
  obtain ⟨hw, hl, hk⟩ := hp
  have hkn : k < one.length := (List.getElem?_eq_some_iff.mp hk).1
  refine ds_asg (d_call0 (t := f2) (one) F2 (Nat.le_of_ble_eq_true rfl) (a_cons (d_name (Has.s Has.z)) a_nil) rfl (by show _ ≤ 100; omega)) (Put.s (Put.s (Put.s Put.z))) ?_
  have hbl := bad_le (rows := one)
  refine ds_if (t_le (d_len (d_name (Has.s (Has.s (Has.s Has.z)))) Bl.len) (d_len (d_name (Has.s Has.z)) Bl.len)) ?_ ?_
  · intro _
    exact ds_retO hR d_bool Sle.refl (fun _ _ O => O)
  · intro h
    have h : ¬ ((tab (K19.top one) (bad one + 1)).length : Int) ≤ one.length := of_decide_eq_false h.symm
    rw [tab_len] at h
    have hb : bad one = one.length := by omega
    refine ds_next ?_
    refine ds_asg (d_call0 (t := f3) (one) F3 (Nat.le_of_ble_eq_true rfl) (a_cons (d_name (Has.s Has.z)) a_nil) rfl (by show _ ≤ 100; omega)) (Put.s (Put.s (Put.s (Put.s Put.z)))) ?_
    refine ds_asgE (e_add (DE.some (d_add (d_name (Has.s (Has.s Has.z))) d_int)) (d_draw Gdr (Nat.le_of_ble_eq_true rfl) (d_name Has.z) (d_sub (d_len (d_name (Has.s Has.z)) Bl.len) (d_name (Has.s (Has.s Has.z)))) (by omega))) (Put.s (Put.s (Put.s (Put.s (Put.s Put.z))))) fun v_j h_j => ⟨_, (Put.s (Put.s (Put.s (Put.s (Put.s Put.z))))), ?_⟩
    obtain ⟨_, d, rfl, hd, hv⟩ := h_j
    obtain ⟨j, rfl⟩ := Int.eq_ofNat_of_zero_le (a := v_j) (by omega)
    have hkj : k + 1 ≤ j := by omega
    have hj : j ≤ one.length := by omega
    have t1 := top_max hw hj
    have t2 := lw_nn hw hj
    have t3 := lw_le hw hb hj
    refine ds_if (t_gt (d_ixT (Rs := I) (d_name (Has.s (Has.s (Has.s (Has.s Has.z))))) (d_name (Has.s (Has.s (Has.s (Has.s (Has.s Has.z)))))) j rfl (by omega)) d_int) ?_ ?_
    · intro _
      exact ds_retO hR d_bool Sle.refl (fun _ _ O => O)
    · intro h9
      have h9 : ¬ (9999 : Int) < lw one j := of_decide_eq_false h9.symm
      refine ds_next ?_
      refine ds_asgE (e_min2 (DE.some d_int) (e_add (DE.some (d_ixT (Rs := I) (d_name (Has.s (Has.s (Has.s (Has.s Has.z))))) (d_name (Has.s (Has.s (Has.s (Has.s (Has.s Has.z)))))) j rfl (by omega))) (d_draw Gdr (Nat.le_of_ble_eq_true rfl) (d_name Has.z) (d_add (d_sub (d_ixT (Rs := I) (d_name (Has.s (Has.s (Has.s Has.z)))) (d_name (Has.s (Has.s (Has.s (Has.s (Has.s Has.z)))))) j rfl (by omega)) (d_ixT (Rs := I) (d_name (Has.s (Has.s (Has.s (Has.s Has.z))))) (d_name (Has.s (Has.s (Has.s (Has.s (Has.s Has.z)))))) j rfl (by omega))) d_int) (by omega))) Bl.min) (Put.s (Put.s (Put.s (Put.s (Put.s (Put.s Put.z)))))) fun v_number h_number => ⟨_, (Put.s (Put.s (Put.s (Put.s (Put.s (Put.s Put.z)))))), ?_⟩
      obtain ⟨_, _, rfl, ⟨_, d2, rfl, hd2, rfl⟩, hv2⟩ := h_number
      have x0 : 0 ≤ v_number := by omega
      have x1 : v_number ≤ 9999 := by omega
      have x2 : v_number ≤ K19.top one j := by omega
      have x3 : lw one j ≤ v_number := by omega
      clear hv2
      have s1 := cut_t (rows := one) (j := j)
      have s2 := cut_d (rows := one) (j := j)
      refine ds_asg (DE.eqS (T := L Rw (ins one j v_number)) (d_cat (d_cat (d_sl (d_name (Has.s Has.z)) o_none (o_some (d_name (Has.s (Has.s (Has.s (Has.s (Has.s Has.z)))))))) (d_lstQ (Rw) ([Row.seen v_number v_number]) (a_cons (d_tup (a_cons d_str (a_cons (d_name (Has.s (Has.s (Has.s (Has.s (Has.s (Has.s Has.z))))))) (a_cons (d_name (Has.s (Has.s (Has.s (Has.s (Has.s (Has.s Has.z))))))) a_nil)))) a_nil)) (by show _ ≤ 16777216; simp only [List.length_singleton]; omega)) (d_sl (d_name (Has.s Has.z)) (o_some (d_name (Has.s (Has.s (Has.s (Has.s (Has.s Has.z))))))) o_none) (by show _ ≤ 16777216; simp only [List.length_append, List.length_singleton]; omega)) (congrArg (L Rw) cut_ins)) (Put.s (Put.s (Put.s (Put.s (Put.s (Put.s (Put.s Put.z))))))) ?_
      refine ds_asg (d_sub (d_add (r_a1 (d_ix (d_name (Has.s Has.z)) (d_name (Has.s (Has.s Has.z))) (atI_of (j := k) rfl hk)) d_int) (d_call0 (t := f1) ((one, k + 1, j)) F1 (Nat.le_of_ble_eq_true rfl) (a_cons (d_name (Has.s Has.z)) (a_cons (d_add (d_name (Has.s (Has.s Has.z))) d_int) (a_cons (d_name (Has.s (Has.s (Has.s (Has.s (Has.s Has.z)))))) a_nil))) rfl ⟨hkj, hj⟩)) (d_name (Has.s (Has.s (Has.s (Has.s (Has.s (Has.s Has.z)))))))) (Put.s (Put.s (Put.s (Put.s (Put.s (Put.s (Put.s (Put.s Put.z)))))))) ?_
      have il := ins_len (x := v_number) hj
      refine ds_ifF (t_notD (t_val (d_call0 (t := rgt) (((ins one j v_number, [((k : Int) + 1, (j : Int) + 1), ((j : Int), (j : Int) + 1)]), true)) GR (Nat.le_of_ble_eq_true rfl) (a_cons (d_name (Has.s (Has.s (Has.s (Has.s (Has.s (Has.s (Has.s Has.z)))))))) (a_cons (d_lstQ (P2) ([((k : Int) + 1, (j : Int) + 1), ((j : Int), (j : Int) + 1)]) (a_cons (d_tup (a_cons (d_add (d_name (Has.s (Has.s Has.z))) d_int) (a_cons (d_add (d_name (Has.s (Has.s (Has.s (Has.s (Has.s Has.z)))))) d_int) a_nil))) (a_cons (d_tup (a_cons (d_name (Has.s (Has.s (Has.s (Has.s (Has.s Has.z)))))) (a_cons (d_add (d_name (Has.s (Has.s (Has.s (Has.s (Has.s Has.z)))))) d_int) a_nil))) a_nil))) (a_cons (d_list (d_name (Has.s (Has.s (Has.s (Has.s (Has.s (Has.s (Has.s Has.z)))))))) Bl.list) a_nil))) rfl ⟨ins_wf hj hw x0 x1, by show (ins one j v_number).length ≤ 100; omega, ?_⟩))) rfl (ds_next ?_)
      · intro x hx
        unfold Mom
        show 0 ≤ x.1 ∧ x.1 ≤ x.2 ∧ x.2 ≤ ((ins one j v_number).length : Int)
        rw [il]
        rcases List.mem_cons.mp hx with rfl | hx
        · exact ⟨by show (0 : Int) ≤ (k : Int) + 1; omega, by show (k : Int) + 1 ≤ (j : Int) + 1; omega, by show (j : Int) + 1 ≤ _; omega⟩
        · rw [List.mem_singleton.mp hx]
          exact ⟨by show (0 : Int) ≤ (j : Int); omega, by show (j : Int) ≤ (j : Int) + 1; omega, by show (j : Int) + 1 ≤ _; omega⟩
      · have e2 := two_pins hw hb hk hkj hj x0 x1 x2 x3
        exact ds_retO hR (d_call0 (t := sP) ((a + (cn one j - cn one (k + 1)) - v_number, a + (cn one j - cn one (k + 1)) - v_number)) GP (Nat.le_of_ble_eq_true rfl) (a_cons (d_call0 (t := c15) (((false, ins one j v_number), (k + 1, j + 1))) G15 (Nat.le_of_ble_eq_true rfl) (a_cons (d_tuple (d_name (Has.s (Has.s (Has.s (Has.s (Has.s (Has.s (Has.s Has.z)))))))) Bl.tuple) (a_cons (d_add (d_name (Has.s (Has.s Has.z))) d_int) (a_cons (d_add (d_name (Has.s (Has.s (Has.s (Has.s (Has.s Has.z)))))) d_int) a_nil))) rfl ⟨by show k + 1 ≤ j + 1; omega, by show j + 1 ≤ (ins one j v_number).length; omega, by show (ins one j v_number).length ≤ 100; omega⟩) (a_cons (d_tup (a_cons (d_name (Has.s (Has.s (Has.s (Has.s (Has.s (Has.s (Has.s (Has.s Has.z))))))))) (a_cons (d_name (Has.s (Has.s (Has.s (Has.s (Has.s (Has.s (Has.s (Has.s Has.z))))))))) a_nil))) a_nil)) (by show [Opp (lr (ins one j v_number) (k + 1) (j + 1)), _] = _; rw [e2]; rfl) trivial) Sle.refl (fun _ _ O => O)
theorem atI_mem {α : Type} {xs : List α} {k : Int} {y : α} (h : L2.atI xs k = some y) : y ∈ xs := by
  unfold L2.atI at h
  obtain ⟨j, _, h⟩ := Option.bind_eq_some_iff.mp h
  exact List.mem_of_getElem? h
theorem momG (rows : List Row) (r : Row) : ∀ x ∈ [((rows.length : Int), (rows.length : Int) + 1), (0, (rows.length : Int) + 1)], Mom (rows ++ [r]) x := fun x hx => by
  have al : (rows ++ [r]).length = rows.length + 1 := by simp
  unfold Mom
  rw [al]
  rcases List.mem_cons.mp hx with rfl | hx
  · exact ⟨by show (0 : Int) ≤ (rows.length : Int); omega, by show (rows.length : Int) ≤ (rows.length : Int) + 1; omega, by show (rows.length : Int) + 1 ≤ _; omega⟩
  · rw [List.mem_singleton.mp hx]
    exact ⟨by show (0 : Int) ≤ 0; omega, by show (0 : Int) ≤ (rows.length : Int) + 1; omega, by show (rows.length : Int) + 1 ≤ _; omega⟩
def gro : Ct ((Addr × Addr) × List Row) := { As := fun g => [At g.1.1, L Rw g.2], pre := fun g => Wf g.2 ∧ g.2.length ≤ 60 ∧ bad g.2 = g.2.length, S := fun _ => Bo true, ω := fun g => potW g.1.1 g.1.2, ω' := fun g => potW g.1.1 g.1.2 }
theorem okgro (Bl : Blt M) (P : Pr M "_law_grown" (stm 32) ["pot", "rows"]) (Gdr : Gd M 1 "_law_draw" ["pot", "many"] dr) (F2 : Gd M 1 "_law_tops" ["rows"] f2) (F3 : Gd M 1 "_law_lows" ["rows"] f3) (G16 : Gd M 6 "there_range" ["rows", "k"] c16) (GR : Gd M 7 "_law_right" ["rows", "moments", "handed"] rgt) (GP : Gd M 2 "_law_same" ["told", "due"] sP) : Gd M 8 "_law_grown" ["pot", "rows"] gro := by
  refine P.gd sc__law_grown (by intro _; rfl) fun X B0 F0 D g hp hR hN => ?_
  obtain ⟨⟨p, q⟩, rows⟩ := g
  dsimp only [mkΓ, gro, potW] at hp hR ⊢
  obtain ⟨hw, hl, hb⟩ := hp
  refine ds_asg (d_len (d_name (Has.s Has.z)) Bl.len) (Put.s (Put.s Put.z)) ?_
  refine ds_own2 (n_list (d_name (Has.s Has.z)) Bl.list) (Put.s (Put.s (Put.s Put.z))) fun l_handed => ⟨_, (Put.s (Put.s (Put.s Put.z))), ?_⟩
  refine ds_asg (d_tup (a_cons (d_ixT (Rs := I) (d_call0 (t := f3) (rows) F3 (Nat.le_of_ble_eq_true rfl) (a_cons (d_name (Has.s Has.z)) a_nil) rfl (by show _ ≤ 100; omega)) (d_name (Has.s (Has.s Has.z))) rows.length rfl (by omega)) (a_cons (d_ixT (Rs := I) (d_call0 (t := f2) (rows) F2 (Nat.le_of_ble_eq_true rfl) (a_cons (d_name (Has.s Has.z)) a_nil) rfl (by show _ ≤ 100; omega)) (d_name (Has.s (Has.s Has.z))) rows.length rfl (by omega)) a_nil))) (Put.s (Put.s (Put.s (Put.s Put.z)))) ?_
  refine ds_ifF (t_borrow (Upg.s (Upg.s (Upg.s Upg.z))) (by walk_at "tak") flat_pot (t_notD (t_val (d_call0 (t := sP) ((lw rows rows.length, K19.top rows rows.length)) GP (Nat.le_of_ble_eq_true rfl) (a_cons (d_call0 (t := c16) (((true, rows), rows.length)) G16 (Nat.le_of_ble_eq_true rfl) (a_cons (d_name (Has.s (Has.s (Has.s Has.z)))) (a_cons (d_name (Has.s (Has.s Has.z))) a_nil)) rfl ⟨Nat.le_refl _, Nat.le_trans hl (by decide)⟩) (a_cons (d_name (Has.s (Has.s (Has.s (Has.s Has.z))))) a_nil)) (by show [Opp (tr rows rows.length), _] = _; rw [tr_eq hw hb (Nat.le_refl _)]; rfl) trivial)))) rfl (ds_next ?_)
  refine ds_asgE (d_lstE 3 (a_cons (DE.wide (T := Es Row.Wf Rw) (d_tup (a_cons d_str (a_cons (e_add (DE.some d_int) (d_draw Gdr (Nat.le_of_ble_eq_true rfl) (d_name Has.z) d_int (by omega))) a_nil))) ?_) (a_cons (DE.wide (T := Es Row.Wf Rw) (d_tup (a_cons d_str (a_cons (e_add (DE.some d_int) (d_draw Gdr (Nat.le_of_ble_eq_true rfl) (d_name Has.z) d_int (by omega))) a_nil))) ?_) (a_cons (DE.wide (T := Es Row.Wf Rw) (d_tup (a_cons d_str (a_cons d_int (a_cons (d_draw Gdr (Nat.le_of_ble_eq_true rfl) (d_name Has.z) d_int (by omega)) a_nil)))) ?_) a_nil)))) (Put.s (Put.s (Put.s (Put.s (Put.s Put.z))))) fun rs hrs => ⟨_, (Put.s (Put.s (Put.s (Put.s (Put.s Put.z))))), ?_⟩
  · exact fun B v z => by
      obtain ⟨r, ⟨n, ⟨_, j, rfl, hj, rfl⟩, rfl⟩, z⟩ := sle_in B v z
      exact ⟨.inn (1 + j), ⟨by omega, by omega⟩, z⟩
  · exact fun B v z => by
      obtain ⟨r, ⟨n, ⟨_, j, rfl, hj, rfl⟩, rfl⟩, z⟩ := sle_out B v z
      exact ⟨.out (1 + j), ⟨by omega, by omega⟩, z⟩
  · exact fun B v z => by
      obtain ⟨r, ⟨n, hn, rfl⟩, z⟩ := sle_seen B v z
      exact ⟨.seen 0 n, ⟨by omega, by omega, by omega⟩, z⟩
  · obtain ⟨hr3, hrw⟩ := hrs
    refine ds_asgE (e_ix (d_name (Has.s (Has.s (Has.s (Has.s (Has.s Has.z)))))) (d_draw Gdr (Nat.le_of_ble_eq_true rfl) (d_name Has.z) d_int (by omega)) (fun k hk => ⟨hk.1, by omega⟩)) (Put.s (Put.s (Put.s (Put.s (Put.s (Put.s Put.z)))))) fun v_row h_row => ⟨_, (Put.s (Put.s (Put.s (Put.s (Put.s (Put.s Put.z)))))), ?_⟩
    obtain ⟨_, _, hy⟩ := h_row
    have hrW := hrw _ (atI_mem hy)
    refine ds_app (d_name (Has.s (Has.s (Has.s Has.z)))) (d_name (Has.s (Has.s (Has.s (Has.s (Has.s (Has.s Has.z))))))) (by walk_at "hold") (by walk_at "swp") (by show _ < 16777216; omega) ?_
    refine ds_freeze (Upg.s (Upg.s (Upg.s Upg.z))) (by walk_at "tak") ?_
    have al : (rows ++ [v_row]).length = rows.length + 1 := by simp
    exact ds_retO hR (d_call0 (t := rgt) (((rows ++ [v_row], [((rows.length : Int), (rows.length : Int) + 1), (0, (rows.length : Int) + 1)]), true)) GR (Nat.le_of_ble_eq_true rfl) (a_cons (d_cat (d_name (Has.s Has.z)) (d_lstQ (Rw) ([v_row]) (a_cons (d_name (Has.s (Has.s (Has.s (Has.s (Has.s (Has.s Has.z))))))) a_nil)) (by show _ ≤ 16777216; simp only [List.length_singleton]; omega)) (a_cons (d_lstQ (P2) ([((rows.length : Int), (rows.length : Int) + 1), (0, (rows.length : Int) + 1)]) (a_cons (d_tup (a_cons (d_name (Has.s (Has.s Has.z))) (a_cons (d_add (d_name (Has.s (Has.s Has.z))) d_int) a_nil))) (a_cons (d_tup (a_cons d_int (a_cons (d_add (d_name (Has.s (Has.s Has.z))) d_int) a_nil))) a_nil))) (a_cons (d_name (Has.s (Has.s (Has.s Has.z)))) a_nil))) rfl ⟨Wf_add hw hrW, by show (rows ++ [v_row]).length ≤ 100; omega, momG rows v_row⟩) Sle.refl (fun _ _ O => O)
end
end K19

set_option maxHeartbeats 4000000
/-! K19r: the law. -/
namespace K19
open PySem PySem.Spec PyProof.Rows L2 ZZ
open Evl (Ex)
local macro_rules | `(tactic| walk_at "has") => `(tactic| (with_reducible first | exact Has.z | exact Has.s Has.z | exact Has.s (Has.s Has.z) | exact Has.s (Has.s (Has.s Has.z)) | exact Has.s (Has.s (Has.s (Has.s Has.z))) | exact Has.s (Has.s (Has.s (Has.s (Has.s Has.z)))) | exact Has.s (Has.s (Has.s (Has.s (Has.s (Has.s Has.z))))) | exact Has.s (Has.s (Has.s (Has.s (Has.s (Has.s (Has.s Has.z))))))))
local macro_rules | `(tactic| walk_at "put") => `(tactic| (with_reducible first | exact Put.z | exact Put.s Put.z | exact Put.s (Put.s Put.z) | exact Put.s (Put.s (Put.s Put.z)) | exact Put.s (Put.s (Put.s (Put.s Put.z))) | exact Put.s (Put.s (Put.s (Put.s (Put.s Put.z)))) | exact Put.s (Put.s (Put.s (Put.s (Put.s (Put.s Put.z))))) | exact Put.s (Put.s (Put.s (Put.s (Put.s (Put.s (Put.s Put.z))))))))
local macro_rules | `(tactic| walk_at "swp") => `(tactic| (with_reducible first | exact Swp.z | exact Swp.s Swp.z | exact Swp.s (Swp.s Swp.z) | exact Swp.s (Swp.s (Swp.s Swp.z)) | exact Swp.s (Swp.s (Swp.s (Swp.s Swp.z))) | exact Swp.s (Swp.s (Swp.s (Swp.s (Swp.s Swp.z)))) | exact Swp.s (Swp.s (Swp.s (Swp.s (Swp.s (Swp.s Swp.z))))) | exact Swp.s (Swp.s (Swp.s (Swp.s (Swp.s (Swp.s (Swp.s Swp.z))))))))
local macro_rules | `(tactic| walk_at "tak") => `(tactic| (with_reducible first | exact Tak.z | exact Tak.s Tak.z | exact Tak.s (Tak.s Tak.z) | exact Tak.s (Tak.s (Tak.s Tak.z)) | exact Tak.s (Tak.s (Tak.s (Tak.s Tak.z))) | exact Tak.s (Tak.s (Tak.s (Tak.s (Tak.s Tak.z)))) | exact Tak.s (Tak.s (Tak.s (Tak.s (Tak.s (Tak.s Tak.z))))) | exact Tak.s (Tak.s (Tak.s (Tak.s (Tak.s (Tak.s (Tak.s Tak.z))))))))
local macro_rules | `(tactic| walk_at "hold") => `(tactic| (with_reducible first | exact Hold.z | exact Hold.s Hold.z | exact Hold.s (Hold.s Hold.z) | exact Hold.s (Hold.s (Hold.s Hold.z)) | exact Hold.s (Hold.s (Hold.s (Hold.s Hold.z))) | exact Hold.s (Hold.s (Hold.s (Hold.s (Hold.s Hold.z)))) | exact Hold.s (Hold.s (Hold.s (Hold.s (Hold.s (Hold.s Hold.z))))) | exact Hold.s (Hold.s (Hold.s (Hold.s (Hold.s (Hold.s (Hold.s Hold.z))))))))
local macro_rules | `(tactic| walk_at "upe") => `(tactic| (with_reducible first | exact UpE.z | exact UpE.s UpE.z | exact UpE.s (UpE.s UpE.z) | exact UpE.s (UpE.s (UpE.s UpE.z)) | exact UpE.s (UpE.s (UpE.s (UpE.s UpE.z))) | exact UpE.s (UpE.s (UpE.s (UpE.s (UpE.s UpE.z)))) | exact UpE.s (UpE.s (UpE.s (UpE.s (UpE.s (UpE.s UpE.z))))) | exact UpE.s (UpE.s (UpE.s (UpE.s (UpE.s (UpE.s (UpE.s UpE.z))))))))
local macro_rules | `(tactic| walk_at "fg") => `(tactic| (repeat (first | exact Fg.nil | (with_reducible refine Fg.keep rfl ?_) | (with_reducible refine Fg.drop ?_))))
local macro_rules | `(tactic| walk_at "nonb") => `(tactic| first | exact nonb_I | exact nonb_No | exact nonb_Bo | exact nonb_S | exact nonb_seq | exact nonb_tup)
local macro_rules | `(tactic| walk_at "istb") => `(tactic| first | exact istb_sc | exact istb_seq | exact istb_tup)

section
variable {M : Mo}
theorem mom1 {rows : List Row} {x y : Int} (h0 : 0 ≤ x) (h1 : x ≤ y) (h2 : y ≤ rows.length) : ∀ z ∈ [(x, y)], Mom rows z := fun z hz => by
  rw [List.mem_singleton.mp hz]
  exact ⟨h0, h1, h2⟩
theorem mom2 {rows : List Row} {x y x' y' : Int} (h0 : 0 ≤ x) (h1 : x ≤ y) (h2 : y ≤ rows.length) (k0 : 0 ≤ x') (k1 : x' ≤ y') (k2 : y' ≤ rows.length) : ∀ z ∈ [(x, y), (x', y')], Mom rows z := fun z hz => by
  rcases List.mem_cons.mp hz with rfl | hz
  · exact ⟨h0, h1, h2⟩
  · exact mom1 k0 k1 k2 z hz
theorem sle_mom {rows : List Row} {P : Int → Prop} {k : Int} (h : ∀ i, P i → Mom rows (i, k)) : Sle (U [Ei P, I k]) (Es (Mom rows) P2) := fun B v z => by
  obtain ⟨a, vs, rfl, h1, h2⟩ := z
  cases h2 with | cons p h2 => cases h2 with | cons q h2 =>
  obtain ⟨n, hn, p⟩ := p
  cases h2
  exact ⟨(n, k), h n hn, a, _, rfl, h1, .cons p (.cons q .nil)⟩
theorem take_tops {rows : List Row} : tab (K19.top rows) (bad rows + 1) = tab (K19.top (rows.take (bad rows))) ((rows.take (bad rows)).length + 1) := by
  rw [take_len]
  exact tab_ext fun i hi => (take_top bad_le (by omega)).symm
theorem oklaw (Bl : Blt M) {f : Addr} {fd : FuncData} (Fl : Fun M.K "law" "law" (stm 33) f fd) (Gpot : Gp M 1 "_law_pot" 63 ["script"]) (Gdr : Gd M 1 "_law_draw" ["pot", "many"] dr) (Grws : Gd M 2 "_law_rows" ["pot"] rws) (Gspl : Gd M 2 "_law_spoilt" ["pot", "rows"] spl) (F2 : Gd M 1 "_law_tops" ["rows"] f2) (F3 : Gd M 1 "_law_lows" ["rows"] f3)
    (GR : Gd M 7 "_law_right" ["rows", "moments", "handed"] rgt) (Gtpn : Gd M 8 "_law_two_pins" ["pot", "one", "k"] tpn) (Ggro : Gd M 8 "_law_grown" ["pot", "rows"] gro) : FnOk M.P M.w M.K M.mg M.base CX0 9 f fd ["script"] (lawC M.K 63).sp := by
  refine gd_fn Fl sc_law (by intro _; rfl) fun X B0 F0 D ns hp hR hN => ?_
  dsimp only [mkΓ, lawC] at hp hR ⊢
  refine ds_pot Gpot (Nat.le_of_ble_eq_true rfl) (d_name Has.z) hp (Put.s Put.z) fun p q => ⟨_, (Put.s Put.z), ?_⟩
  dsimp only [potW]
  refine ds_asgE (P := fun rs : List Row => Wf rs ∧ rs.length ≤ 38) (Rs := L Rw) (d_callX Gspl (Nat.le_of_ble_eq_true rfl) (a_cons (d_name (Has.s Has.z)) (a_cons (d_callK (t := rws) ((p, q)) Grws (Nat.le_of_ble_eq_true rfl) (a_cons (d_name (Has.s Has.z)) a_nil) rfl trivial) a_nil)) ?_) (Put.s (Put.s Put.z)) fun rows hrows => ⟨_, (Put.s (Put.s Put.z)), ?_⟩
  · intro B vs h
    obtain ⟨v, u, rfl, h1, rs, hrs, h2⟩ := all2 h
    exact ⟨((p, q), rs), hrs, .cons h1 (.cons h2 .nil), rfl, rfl, Sle.refl⟩
  obtain ⟨hw, hl⟩ := hrows
  refine ds_own2 (n_lstQ (P2) ([((0 : Int), (rows.length : Int))]) (a_cons (d_tup (a_cons d_int (a_cons (d_len (d_name (Has.s (Has.s Has.z))) Bl.len) a_nil))) a_nil)) (Put.s (Put.s (Put.s Put.z))) fun l_moments => ⟨_, (Put.s (Put.s (Put.s Put.z))), ?_⟩
  refine ds_for (fun i Γ ω => ∃ ms, ms.length = i + 1 ∧ (∀ x ∈ ms, Mom rows x) ∧ Γ = ([("script", none), ("pot", some (At p)), ("rows", some (L Rw rows)), ("moments", some (At l_moments)), ("turn", none), ("tops", none), ("lows", none), ("k", none), ("middle", none), ("numbers", none), ("number", none), ("one", none)] : En) ∧ ω = [pw p q, qw q, (l_moments, Cl P2 ms)]) (i_rng1 d_int Bl.range) (Γ0 := ([("script", none), ("pot", some (At p)), ("rows", some (L Rw rows)), ("moments", some (At l_moments)), ("turn", none), ("tops", none), ("lows", none), ("k", none), ("middle", none), ("numbers", none), ("number", none), ("one", none)] : En)) (by walk_at "fg") ⟨_, rfl, mom1 (by decide) (by omega) (by omega), rfl, rfl⟩ ?_ ?_
  · rintro B1 hB1 i _ _ _ hi rfl ⟨ms, hml, hms, rfl, rfl⟩ _
    have hi : i < 3 := hi
    refine ⟨_, _, (g_name (Put.s (Put.s (Put.s (Put.s Put.z))))), ?_⟩
    refine ds_asgE (d_draw Gdr (Nat.le_of_ble_eq_true rfl) (d_name (Has.s Has.z)) (d_add (d_len (d_name (Has.s (Has.s Has.z))) Bl.len) d_int) (by omega)) (Put.s (Put.s (Put.s (Put.s (Put.s (Put.s (Put.s Put.z))))))) fun v_k h_k => ⟨_, (Put.s (Put.s (Put.s (Put.s (Put.s (Put.s (Put.s Put.z))))))), ?_⟩
    refine ds_appE (P := Mom rows) (d_name (Has.s (Has.s (Has.s Has.z)))) (DE.wide (T := Es (Mom rows) P2) (d_tup (a_cons (d_draw Gdr (Nat.le_of_ble_eq_true rfl) (d_name (Has.s Has.z)) (d_add (d_name (Has.s (Has.s (Has.s (Has.s (Has.s (Has.s (Has.s Has.z)))))))) d_int) (by omega)) (a_cons (d_name (Has.s (Has.s (Has.s (Has.s (Has.s (Has.s (Has.s Has.z)))))))) a_nil))) (sle_mom fun i hi => ⟨hi.1, by show i ≤ v_k; omega, by show v_k ≤ _; omega⟩)) (by walk_at "hold") (by walk_at "hold") (by show _ < 16777216; omega) ?_
    intro x hx
    refine ⟨_, by walk_at "swp", ?_⟩
    exact ds_turnJ (Γ1 := ([("script", none), ("pot", some (At p)), ("rows", some (L Rw rows)), ("moments", some (At l_moments)), ("turn", none), ("tops", none), ("lows", none), ("k", none), ("middle", none), ("numbers", none), ("number", none), ("one", none)] : En)) (by walk_at "fg") ⟨ms ++ [x], by simp [hml], fun z hz => by
      rcases List.mem_append.mp hz with hz | hz
      · exact hms z hz
      · rw [List.mem_singleton.mp hz]; exact hx, rfl, rfl⟩ rfl rfl
  · rintro _ _ ⟨ms, hml, hms, rfl, rfl⟩ _
    refine ds_freeze (Upg.s (Upg.s (Upg.s Upg.z))) (by walk_at "tak") ?_
    refine ds_ifF (t_notD (t_val (d_call0 (t := rgt) (((rows, ms), true)) GR (Nat.le_of_ble_eq_true rfl) (a_cons (d_name (Has.s (Has.s Has.z))) (a_cons (d_name (Has.s (Has.s (Has.s Has.z)))) (a_cons (d_list (d_name (Has.s (Has.s Has.z))) Bl.list) a_nil))) rfl ⟨hw, Nat.le_trans hl (by decide), hms⟩))) rfl (ds_next ?_)
    refine ds_asg (d_call0 (t := f2) (rows) F2 (Nat.le_of_ble_eq_true rfl) (a_cons (d_name (Has.s (Has.s Has.z))) a_nil) rfl (Nat.le_trans hl (by decide))) (Put.s (Put.s (Put.s (Put.s (Put.s Put.z))))) ?_
    have hbl := bad_le (rows := rows)
    have e3 := take_tops (rows := rows)
    have e4 : (rows.take (bad rows)).length = bad rows := take_len
    refine ds_ifJ ([("script", none), ("pot", some (At p)), ("rows", some (L Rw (rows.take (bad rows)))), ("moments", none), ("turn", none), ("tops", some (L I (tab (K19.top (rows.take (bad rows))) ((rows.take (bad rows)).length + 1)))), ("lows", none), ("k", none), ("middle", none), ("numbers", none), ("number", none), ("one", none)] : En) [pw p q, qw q] rfl (t_le (d_len (d_name (Has.s (Has.s (Has.s (Has.s (Has.s Has.z)))))) Bl.len) (d_len (d_name (Has.s (Has.s Has.z))) Bl.len)) ?_ ?_ ?_
    · intro h
      have h : ((tab (K19.top rows) (bad rows + 1)).length : Int) ≤ rows.length := of_decide_eq_true h.symm
      rw [tab_len] at h
      refine ds_asg (DE.eqI (j := (bad rows : Int)) (d_sub (d_len (d_name (Has.s (Has.s (Has.s (Has.s (Has.s Has.z)))))) Bl.len) d_int) (by rw [tab_len]; omega)) (Put.s (Put.s (Put.s (Put.s (Put.s (Put.s (Put.s Put.z))))))) ?_
      have c1 : cut rows none (some ((bad rows : Int) + 1)) = rows.take (bad rows + 1) := cut_take (k := bad rows + 1)
      have c2 : cut rows none (some (bad rows : Int)) = rows.take (bad rows) := cut_take
      have l1 : (rows.take (bad rows + 1)).length = bad rows + 1 := by rw [List.length_take]; omega
      refine ds_ifF (t_notD (t_val (d_call0 (t := rgt) (((rows.take (bad rows + 1), [((0 : Int), (bad rows : Int) + 1)]), false)) GR (Nat.le_of_ble_eq_true rfl) (a_cons (d_sl (d_name (Has.s (Has.s Has.z))) o_none (o_some (d_add (d_name (Has.s (Has.s (Has.s (Has.s (Has.s (Has.s (Has.s Has.z)))))))) d_int))) (a_cons (d_lstQ (P2) ([((0 : Int), (bad rows : Int) + 1)]) (a_cons (d_tup (a_cons d_int (a_cons (d_add (d_name (Has.s (Has.s (Has.s (Has.s (Has.s (Has.s (Has.s Has.z)))))))) d_int) a_nil))) a_nil)) (a_cons (d_tuple (d_sl (d_name (Has.s (Has.s Has.z))) o_none (o_some (d_add (d_name (Has.s (Has.s (Has.s (Has.s (Has.s (Has.s (Has.s Has.z)))))))) d_int))) Bl.tuple) a_nil))) (by rw [c1]; rfl) ⟨Wf_take hw _, by show (rows.take (bad rows + 1)).length ≤ 100; omega, mom1 (by decide) (by omega) (by rw [l1]; omega)⟩))) rfl (ds_next ?_)
      refine ds_asg (DE.eqS (T := L Rw (rows.take (bad rows))) (d_sl (d_name (Has.s (Has.s Has.z))) o_none (o_some (d_name (Has.s (Has.s (Has.s (Has.s (Has.s (Has.s (Has.s Has.z)))))))))) (by rw [c2])) (Put.s (Put.s Put.z)) ?_
      refine ds_ifF (t_notD (t_val (d_call0 (t := rgt) (((rows.take (bad rows), [((bad rows : Int) / 2, (bad rows : Int))]), true)) GR (Nat.le_of_ble_eq_true rfl) (a_cons (d_name (Has.s (Has.s Has.z))) (a_cons (d_lstQ (P2) ([((bad rows : Int) / 2, (bad rows : Int))]) (a_cons (d_tup (a_cons (d_div (d_name (Has.s (Has.s (Has.s (Has.s (Has.s (Has.s (Has.s Has.z)))))))) d_int ⟨by decide, by decide⟩) (a_cons (d_name (Has.s (Has.s (Has.s (Has.s (Has.s (Has.s (Has.s Has.z)))))))) a_nil))) a_nil)) (a_cons (d_list (d_name (Has.s (Has.s Has.z))) Bl.list) a_nil))) rfl ⟨Wf_take hw _, by show (rows.take (bad rows)).length ≤ 100; omega, mom1 (rows := rows.take (bad rows)) (by omega) (by omega) (by omega)⟩))) rfl (ds_next ?_)
      exact ds_meet (by rw [← e3]; walk_at "fg") rfl rfl rfl
    · intro h
      have h : ¬ ((tab (K19.top rows) (bad rows + 1)).length : Int) ≤ rows.length := of_decide_eq_false h.symm
      rw [tab_len] at h
      have e5 : rows.take (bad rows) = rows := List.take_of_length_le (by omega)
      exact ds_meet (by rw [← e3, e5]; walk_at "fg") rfl rfl rfl
    · have hw' : Wf (rows.take (bad rows)) := Wf_take hw _
      have hb' : bad (rows.take (bad rows)) = (rows.take (bad rows)).length := by rw [take_bad, take_len]
      have hl' : (rows.take (bad rows)).length ≤ 38 := by omega
      clear e3 e4 hbl
      generalize rows.take (bad rows) = rs at hw' hb' hl' ⊢
      refine ds_asg (d_call0 (t := f3) (rs) F3 (Nat.le_of_ble_eq_true rfl) (a_cons (d_name (Has.s (Has.s Has.z))) a_nil) rfl (Nat.le_trans hl' (by decide))) (Put.s (Put.s (Put.s (Put.s (Put.s (Put.s Put.z)))))) ?_
      refine ds_asgE (d_draw Gdr (Nat.le_of_ble_eq_true rfl) (d_name (Has.s Has.z)) (d_add (d_len (d_name (Has.s (Has.s Has.z))) Bl.len) d_int) (by omega)) (Put.s (Put.s (Put.s (Put.s (Put.s (Put.s (Put.s Put.z))))))) fun v_k h_k => ⟨_, (Put.s (Put.s (Put.s (Put.s (Put.s (Put.s (Put.s Put.z))))))), ?_⟩
      obtain ⟨k, rfl⟩ := Int.eq_ofNat_of_zero_le h_k.1
      have hk : k ≤ rs.length := by omega
      have t1 := lw_nn hw' hk
      have t2 := lw_le hw' hb' hk
      refine ds_asg (d_add (d_ixT (Rs := I) (d_name (Has.s (Has.s (Has.s (Has.s (Has.s (Has.s Has.z))))))) (d_name (Has.s (Has.s (Has.s (Has.s (Has.s (Has.s (Has.s Has.z)))))))) k rfl (by omega)) (d_div (d_sub (d_ixT (Rs := I) (d_name (Has.s (Has.s (Has.s (Has.s (Has.s Has.z)))))) (d_name (Has.s (Has.s (Has.s (Has.s (Has.s (Has.s (Has.s Has.z)))))))) k rfl (by omega)) (d_ixT (Rs := I) (d_name (Has.s (Has.s (Has.s (Has.s (Has.s (Has.s Has.z))))))) (d_name (Has.s (Has.s (Has.s (Has.s (Has.s (Has.s (Has.s Has.z)))))))) k rfl (by omega))) d_int ⟨by decide, by decide⟩)) (Put.s (Put.s (Put.s (Put.s (Put.s (Put.s (Put.s (Put.s Put.z)))))))) ?_
      refine ds_asg (d_lstQ (I) ([lw rs k, K19.top rs k, K19.top rs k + 1, lw rs k + (K19.top rs k - lw rs k) / 2, max 0 (lw rs k - 1)]) (a_cons (d_ixT (Rs := I) (d_name (Has.s (Has.s (Has.s (Has.s (Has.s (Has.s Has.z))))))) (d_name (Has.s (Has.s (Has.s (Has.s (Has.s (Has.s (Has.s Has.z)))))))) k rfl (by omega)) (a_cons (d_ixT (Rs := I) (d_name (Has.s (Has.s (Has.s (Has.s (Has.s Has.z)))))) (d_name (Has.s (Has.s (Has.s (Has.s (Has.s (Has.s (Has.s Has.z)))))))) k rfl (by omega)) (a_cons (d_add (d_ixT (Rs := I) (d_name (Has.s (Has.s (Has.s (Has.s (Has.s Has.z)))))) (d_name (Has.s (Has.s (Has.s (Has.s (Has.s (Has.s (Has.s Has.z)))))))) k rfl (by omega)) d_int) (a_cons (d_name (Has.s (Has.s (Has.s (Has.s (Has.s (Has.s (Has.s (Has.s Has.z))))))))) (a_cons (d_max2 d_int (d_sub (d_ixT (Rs := I) (d_name (Has.s (Has.s (Has.s (Has.s (Has.s (Has.s Has.z))))))) (d_name (Has.s (Has.s (Has.s (Has.s (Has.s (Has.s (Has.s Has.z)))))))) k rfl (by omega)) d_int) Bl.max) a_nil)))))) (Put.s (Put.s (Put.s (Put.s (Put.s (Put.s (Put.s (Put.s (Put.s Put.z))))))))) ?_
      refine ds_asgE (e_min2 (DE.some d_int) (e_ix (d_name (Has.s (Has.s (Has.s (Has.s (Has.s (Has.s (Has.s (Has.s (Has.s Has.z)))))))))) (d_draw Gdr (Nat.le_of_ble_eq_true rfl) (d_name (Has.s Has.z)) d_int (by omega)) (fun k hk => hk)) Bl.min) (Put.s (Put.s (Put.s (Put.s (Put.s (Put.s (Put.s (Put.s (Put.s (Put.s Put.z)))))))))) fun v_number h_number => ⟨_, (Put.s (Put.s (Put.s (Put.s (Put.s (Put.s (Put.s (Put.s (Put.s (Put.s Put.z)))))))))), ?_⟩
      have x01 : 0 ≤ v_number ∧ v_number ≤ 9999 := by
        obtain ⟨_, j, rfl, ⟨_, _, hj⟩, rfl⟩ := h_number
        have hj := atI_mem hj
        have j0 : 0 ≤ j := by
          simp only [List.mem_cons, List.not_mem_nil, or_false] at hj
          rcases hj with rfl | rfl | rfl | rfl | rfl <;> omega
        omega
      obtain ⟨x0, x1⟩ := x01
      clear h_number
      have s1 := cut_t (rows := rs) (j := k)
      have s2 := cut_d (rows := rs) (j := k)
      refine ds_asg (DE.eqS (T := L Rw (ins rs k v_number)) (d_cat (d_cat (d_sl (d_name (Has.s (Has.s Has.z))) o_none (o_some (d_name (Has.s (Has.s (Has.s (Has.s (Has.s (Has.s (Has.s Has.z)))))))))) (d_lstQ (Rw) ([Row.seen v_number v_number]) (a_cons (d_tup (a_cons d_str (a_cons (d_name (Has.s (Has.s (Has.s (Has.s (Has.s (Has.s (Has.s (Has.s (Has.s (Has.s Has.z))))))))))) (a_cons (d_name (Has.s (Has.s (Has.s (Has.s (Has.s (Has.s (Has.s (Has.s (Has.s (Has.s Has.z))))))))))) a_nil)))) a_nil)) (by show _ ≤ 16777216; simp only [List.length_singleton]; omega)) (d_sl (d_name (Has.s (Has.s Has.z))) (o_some (d_name (Has.s (Has.s (Has.s (Has.s (Has.s (Has.s (Has.s Has.z))))))))) o_none) (by show _ ≤ 16777216; simp only [List.length_append, List.length_singleton]; omega)) (congrArg (L Rw) cut_ins)) (Put.s (Put.s (Put.s (Put.s (Put.s (Put.s (Put.s (Put.s (Put.s (Put.s (Put.s Put.z))))))))))) ?_
      have il := ins_len (x := v_number) hk
      have iw := ins_wf hk hw' x0 x1
      refine ds_ifF (t_notD (t_val (d_call0 (t := rgt) (((ins rs k v_number, [((k : Int), (k : Int) + 1), ((0 : Int), ((ins rs k v_number).length : Int))]), true)) GR (Nat.le_of_ble_eq_true rfl) (a_cons (d_name (Has.s (Has.s (Has.s (Has.s (Has.s (Has.s (Has.s (Has.s (Has.s (Has.s (Has.s Has.z)))))))))))) (a_cons (d_lstQ (P2) ([((k : Int), (k : Int) + 1), ((0 : Int), ((ins rs k v_number).length : Int))]) (a_cons (d_tup (a_cons (d_name (Has.s (Has.s (Has.s (Has.s (Has.s (Has.s (Has.s Has.z)))))))) (a_cons (d_add (d_name (Has.s (Has.s (Has.s (Has.s (Has.s (Has.s (Has.s Has.z)))))))) d_int) a_nil))) (a_cons (d_tup (a_cons d_int (a_cons (d_len (d_name (Has.s (Has.s (Has.s (Has.s (Has.s (Has.s (Has.s (Has.s (Has.s (Has.s (Has.s Has.z)))))))))))) Bl.len) a_nil))) a_nil))) (a_cons (d_list (d_name (Has.s (Has.s (Has.s (Has.s (Has.s (Has.s (Has.s (Has.s (Has.s (Has.s (Has.s Has.z)))))))))))) Bl.list) a_nil))) rfl ⟨iw, by show (ins rs k v_number).length ≤ 100; omega, mom2 (rows := ins rs k v_number) (by omega) (by omega) (by omega) (by decide) (by omega) (by omega)⟩))) rfl (ds_next ?_)
      exact ds_ret0 hR (d_and (d_callK (t := tpn) (((p, q), (ins rs k v_number, (k, v_number)))) Gtpn (Nat.le_of_ble_eq_true rfl) (a_cons (d_name (Has.s Has.z)) (a_cons (d_name (Has.s (Has.s (Has.s (Has.s (Has.s (Has.s (Has.s (Has.s (Has.s (Has.s (Has.s Has.z)))))))))))) (a_cons (d_name (Has.s (Has.s (Has.s (Has.s (Has.s (Has.s (Has.s Has.z)))))))) a_nil))) rfl ⟨iw, by show (ins rs k v_number).length ≤ 60; omega, ins_at hk⟩) (fun _ => (d_one (d_callK (t := gro) (((p, q), rs)) Ggro (Nat.le_of_ble_eq_true rfl) (a_cons (d_name (Has.s Has.z)) (a_cons (d_name (Has.s (Has.s Has.z))) a_nil)) rfl ⟨hw', Nat.le_trans hl' (by decide), hb'⟩)))) rfl
end
end K19

set_option maxHeartbeats 4000000
namespace K19
open PySem PySem.Spec PyProof.Rows L2 ZZ
open Evl (Ex)
/-! ### what the top has written; the law's own head -/
theorem all_mk {l : PySem.W.OpenLaw} {w : World} {K : PySem.W.Frag} {h : Heap} {mg : Str → Option Value} {fa : Addr} (X : K.In h) (G : h.Ns mainGlobals mg) (hfa : mg "law" = some (.ref fa))
    {f1 : Addr} {od1 an1 : Option Addr} {sl1 : Array (Option Value)} {oc1 kV1 dc1 pm1 cd1 ct1 : Value}
    (a1 : PySem.W.nsIn K mainGlobals "change_of" = some (some (.ref f1))) (l1 : K.lookup f1 = some ⟨oc1, od1, .func (PySem.W.fnOf "change_of" "change_of" (defArgs (stm 1)) (defBody (stm 1)) (defScope (stm 1)) .none kV1 dc1 pm1 an1 cd1 ct1), sl1⟩) (c1 : PySem.W.codeIn K cd1 "change_of" = true) (k1 : PySem.W.keepIn K (.ref f1) = true)
    {f2 : Addr} {od2 an2 : Option Addr} {sl2 : Array (Option Value)} {oc2 kV2 dc2 pm2 cd2 ct2 : Value}
    (a2 : PySem.W.nsIn K mainGlobals "wanted_behind" = some (some (.ref f2))) (l2 : K.lookup f2 = some ⟨oc2, od2, .func (PySem.W.fnOf "wanted_behind" "wanted_behind" (defArgs (stm 2)) (defBody (stm 2)) (defScope (stm 2)) .none kV2 dc2 pm2 an2 cd2 ct2), sl2⟩) (c2 : PySem.W.codeIn K cd2 "wanted_behind" = true) (k2 : PySem.W.keepIn K (.ref f2) = true)
    {f3 : Addr} {od3 an3 : Option Addr} {sl3 : Array (Option Value)} {oc3 kV3 dc3 pm3 cd3 ct3 : Value}
    (a3 : PySem.W.nsIn K mainGlobals "book_count" = some (some (.ref f3))) (l3 : K.lookup f3 = some ⟨oc3, od3, .func (PySem.W.fnOf "book_count" "book_count" (defArgs (stm 3)) (defBody (stm 3)) (defScope (stm 3)) .none kV3 dc3 pm3 an3 cd3 ct3), sl3⟩) (c3 : PySem.W.codeIn K cd3 "book_count" = true) (k3 : PySem.W.keepIn K (.ref f3) = true)
    {f4 : Addr} {od4 an4 : Option Addr} {sl4 : Array (Option Value)} {oc4 kV4 dc4 pm4 cd4 ct4 : Value}
    (a4 : PySem.W.nsIn K mainGlobals "book_counts" = some (some (.ref f4))) (l4 : K.lookup f4 = some ⟨oc4, od4, .func (PySem.W.fnOf "book_counts" "book_counts" (defArgs (stm 4)) (defBody (stm 4)) (defScope (stm 4)) .none kV4 dc4 pm4 an4 cd4 ct4), sl4⟩) (c4 : PySem.W.codeIn K cd4 "book_counts" = true) (k4 : PySem.W.keepIn K (.ref f4) = true)
    {f5 : Addr} {od5 an5 : Option Addr} {sl5 : Array (Option Value)} {oc5 kV5 dc5 pm5 cd5 ct5 : Value}
    (a5 : PySem.W.nsIn K mainGlobals "least_tolls" = some (some (.ref f5))) (l5 : K.lookup f5 = some ⟨oc5, od5, .func (PySem.W.fnOf "least_tolls" "least_tolls" (defArgs (stm 5)) (defBody (stm 5)) (defScope (stm 5)) .none kV5 dc5 pm5 an5 cd5 ct5), sl5⟩) (c5 : PySem.W.codeIn K cd5 "least_tolls" = true) (k5 : PySem.W.keepIn K (.ref f5) = true)
    {f6 : Addr} {od6 an6 : Option Addr} {sl6 : Array (Option Value)} {oc6 kV6 dc6 pm6 cd6 ct6 : Value}
    (a6 : PySem.W.nsIn K mainGlobals "most_tolls" = some (some (.ref f6))) (l6 : K.lookup f6 = some ⟨oc6, od6, .func (PySem.W.fnOf "most_tolls" "most_tolls" (defArgs (stm 6)) (defBody (stm 6)) (defScope (stm 6)) .none kV6 dc6 pm6 an6 cd6 ct6), sl6⟩) (c6 : PySem.W.codeIn K cd6 "most_tolls" = true) (k6 : PySem.W.keepIn K (.ref f6) = true)
    {f7 : Addr} {od7 an7 : Option Addr} {sl7 : Array (Option Value)} {oc7 kV7 dc7 pm7 cd7 ct7 : Value}
    (a7 : PySem.W.nsIn K mainGlobals "least_losses" = some (some (.ref f7))) (l7 : K.lookup f7 = some ⟨oc7, od7, .func (PySem.W.fnOf "least_losses" "least_losses" (defArgs (stm 7)) (defBody (stm 7)) (defScope (stm 7)) .none kV7 dc7 pm7 an7 cd7 ct7), sl7⟩) (c7 : PySem.W.codeIn K cd7 "least_losses" = true) (k7 : PySem.W.keepIn K (.ref f7) = true)
    {f8 : Addr} {od8 an8 : Option Addr} {sl8 : Array (Option Value)} {oc8 kV8 dc8 pm8 cd8 ct8 : Value}
    (a8 : PySem.W.nsIn K mainGlobals "are_explained" = some (some (.ref f8))) (l8 : K.lookup f8 = some ⟨oc8, od8, .func (PySem.W.fnOf "are_explained" "are_explained" (defArgs (stm 8)) (defBody (stm 8)) (defScope (stm 8)) .none kV8 dc8 pm8 an8 cd8 ct8), sl8⟩) (c8 : PySem.W.codeIn K cd8 "are_explained" = true) (k8 : PySem.W.keepIn K (.ref f8) = true)
    {f9 : Addr} {od9 an9 : Option Addr} {sl9 : Array (Option Value)} {oc9 kV9 dc9 pm9 cd9 ct9 : Value}
    (a9 : PySem.W.nsIn K mainGlobals "can_be" = some (some (.ref f9))) (l9 : K.lookup f9 = some ⟨oc9, od9, .func (PySem.W.fnOf "can_be" "can_be" (defArgs (stm 9)) (defBody (stm 9)) (defScope (stm 9)) .none kV9 dc9 pm9 an9 cd9 ct9), sl9⟩) (c9 : PySem.W.codeIn K cd9 "can_be" = true) (k9 : PySem.W.keepIn K (.ref f9) = true)
    {f10 : Addr} {od10 an10 : Option Addr} {sl10 : Array (Option Value)} {oc10 kV10 dc10 pm10 cd10 ct10 : Value}
    (a10 : PySem.W.nsIn K mainGlobals "top_behind" = some (some (.ref f10))) (l10 : K.lookup f10 = some ⟨oc10, od10, .func (PySem.W.fnOf "top_behind" "top_behind" (defArgs (stm 10)) (defBody (stm 10)) (defScope (stm 10)) .none kV10 dc10 pm10 an10 cd10 ct10), sl10⟩) (c10 : PySem.W.codeIn K cd10 "top_behind" = true) (k10 : PySem.W.keepIn K (.ref f10) = true)
    {f11 : Addr} {od11 an11 : Option Addr} {sl11 : Array (Option Value)} {oc11 kV11 dc11 pm11 cd11 ct11 : Value}
    (a11 : PySem.W.nsIn K mainGlobals "clash_at" = some (some (.ref f11))) (l11 : K.lookup f11 = some ⟨oc11, od11, .func (PySem.W.fnOf "clash_at" "clash_at" (defArgs (stm 11)) (defBody (stm 11)) (defScope (stm 11)) .none kV11 dc11 pm11 an11 cd11 ct11), sl11⟩) (c11 : PySem.W.codeIn K cd11 "clash_at" = true) (k11 : PySem.W.keepIn K (.ref f11) = true)
    {f12 : Addr} {od12 an12 : Option Addr} {sl12 : Array (Option Value)} {oc12 kV12 dc12 pm12 cd12 ct12 : Value}
    (a12 : PySem.W.nsIn K mainGlobals "clash" = some (some (.ref f12))) (l12 : K.lookup f12 = some ⟨oc12, od12, .func (PySem.W.fnOf "clash" "clash" (defArgs (stm 12)) (defBody (stm 12)) (defScope (stm 12)) .none kV12 dc12 pm12 an12 cd12 ct12), sl12⟩) (c12 : PySem.W.codeIn K cd12 "clash" = true) (k12 : PySem.W.keepIn K (.ref f12) = true)
    {f13 : Addr} {od13 an13 : Option Addr} {sl13 : Array (Option Value)} {oc13 kV13 dc13 pm13 cd13 ct13 : Value}
    (a13 : PySem.W.nsIn K mainGlobals "least_lost" = some (some (.ref f13))) (l13 : K.lookup f13 = some ⟨oc13, od13, .func (PySem.W.fnOf "least_lost" "least_lost" (defArgs (stm 13)) (defBody (stm 13)) (defScope (stm 13)) .none kV13 dc13 pm13 an13 cd13 ct13), sl13⟩) (c13 : PySem.W.codeIn K cd13 "least_lost" = true) (k13 : PySem.W.keepIn K (.ref f13) = true)
    {f14 : Addr} {od14 an14 : Option Addr} {sl14 : Array (Option Value)} {oc14 kV14 dc14 pm14 cd14 ct14 : Value}
    (a14 : PySem.W.nsIn K mainGlobals "most_lost" = some (some (.ref f14))) (l14 : K.lookup f14 = some ⟨oc14, od14, .func (PySem.W.fnOf "most_lost" "most_lost" (defArgs (stm 14)) (defBody (stm 14)) (defScope (stm 14)) .none kV14 dc14 pm14 an14 cd14 ct14), sl14⟩) (c14 : PySem.W.codeIn K cd14 "most_lost" = true) (k14 : PySem.W.keepIn K (.ref f14) = true)
    {f15 : Addr} {od15 an15 : Option Addr} {sl15 : Array (Option Value)} {oc15 kV15 dc15 pm15 cd15 ct15 : Value}
    (a15 : PySem.W.nsIn K mainGlobals "lost_range" = some (some (.ref f15))) (l15 : K.lookup f15 = some ⟨oc15, od15, .func (PySem.W.fnOf "lost_range" "lost_range" (defArgs (stm 15)) (defBody (stm 15)) (defScope (stm 15)) .none kV15 dc15 pm15 an15 cd15 ct15), sl15⟩) (c15 : PySem.W.codeIn K cd15 "lost_range" = true) (k15 : PySem.W.keepIn K (.ref f15) = true)
    {f16 : Addr} {od16 an16 : Option Addr} {sl16 : Array (Option Value)} {oc16 kV16 dc16 pm16 cd16 ct16 : Value}
    (a16 : PySem.W.nsIn K mainGlobals "there_range" = some (some (.ref f16))) (l16 : K.lookup f16 = some ⟨oc16, od16, .func (PySem.W.fnOf "there_range" "there_range" (defArgs (stm 16)) (defBody (stm 16)) (defScope (stm 16)) .none kV16 dc16 pm16 an16 cd16 ct16), sl16⟩) (c16 : PySem.W.codeIn K cd16 "there_range" = true) (k16 : PySem.W.keepIn K (.ref f16) = true)
    {f17 : Addr} {od17 an17 : Option Addr} {sl17 : Array (Option Value)} {oc17 kV17 dc17 pm17 cd17 ct17 : Value}
    (a17 : PySem.W.nsIn K mainGlobals "sure_losses" = some (some (.ref f17))) (l17 : K.lookup f17 = some ⟨oc17, od17, .func (PySem.W.fnOf "sure_losses" "sure_losses" (defArgs (stm 17)) (defBody (stm 17)) (defScope (stm 17)) .none kV17 dc17 pm17 an17 cd17 ct17), sl17⟩) (c17 : PySem.W.codeIn K cd17 "sure_losses" = true) (k17 : PySem.W.keepIn K (.ref f17) = true)
    {f19 : Addr} {od19 an19 : Option Addr} {sl19 : Array (Option Value)} {oc19 kV19 dc19 pm19 cd19 ct19 : Value}
    (a19 : PySem.W.nsIn K mainGlobals "_law_pot" = some (some (.ref f19))) (l19 : K.lookup f19 = some ⟨oc19, od19, .func (PySem.W.fnOf "_law_pot" "_law_pot" (defArgs (stm 19)) (defBody (stm 19)) (defScope (stm 19)) .none kV19 dc19 pm19 an19 cd19 ct19), sl19⟩) (c19 : PySem.W.codeIn K cd19 "_law_pot" = true) (k19 : PySem.W.keepIn K (.ref f19) = true)
    {f20 : Addr} {od20 an20 : Option Addr} {sl20 : Array (Option Value)} {oc20 kV20 dc20 pm20 cd20 ct20 : Value}
    (a20 : PySem.W.nsIn K mainGlobals "_law_draw" = some (some (.ref f20))) (l20 : K.lookup f20 = some ⟨oc20, od20, .func (PySem.W.fnOf "_law_draw" "_law_draw" (defArgs (stm 20)) (defBody (stm 20)) (defScope (stm 20)) .none kV20 dc20 pm20 an20 cd20 ct20), sl20⟩) (c20 : PySem.W.codeIn K cd20 "_law_draw" = true) (k20 : PySem.W.keepIn K (.ref f20) = true)
    {f21 : Addr} {od21 an21 : Option Addr} {sl21 : Array (Option Value)} {oc21 kV21 dc21 pm21 cd21 ct21 : Value}
    (a21 : PySem.W.nsIn K mainGlobals "_law_same" = some (some (.ref f21))) (l21 : K.lookup f21 = some ⟨oc21, od21, .func (PySem.W.fnOf "_law_same" "_law_same" (defArgs (stm 21)) (defBody (stm 21)) (defScope (stm 21)) .none kV21 dc21 pm21 an21 cd21 ct21), sl21⟩) (c21 : PySem.W.codeIn K cd21 "_law_same" = true) (k21 : PySem.W.keepIn K (.ref f21) = true)
    {f22 : Addr} {od22 an22 : Option Addr} {sl22 : Array (Option Value)} {oc22 kV22 dc22 pm22 cd22 ct22 : Value}
    (a22 : PySem.W.nsIn K mainGlobals "_law_rows" = some (some (.ref f22))) (l22 : K.lookup f22 = some ⟨oc22, od22, .func (PySem.W.fnOf "_law_rows" "_law_rows" (defArgs (stm 22)) (defBody (stm 22)) (defScope (stm 22)) .none kV22 dc22 pm22 an22 cd22 ct22), sl22⟩) (c22 : PySem.W.codeIn K cd22 "_law_rows" = true) (k22 : PySem.W.keepIn K (.ref f22) = true)
    {f23 : Addr} {od23 an23 : Option Addr} {sl23 : Array (Option Value)} {oc23 kV23 dc23 pm23 cd23 ct23 : Value}
    (a23 : PySem.W.nsIn K mainGlobals "_law_moved" = some (some (.ref f23))) (l23 : K.lookup f23 = some ⟨oc23, od23, .func (PySem.W.fnOf "_law_moved" "_law_moved" (defArgs (stm 23)) (defBody (stm 23)) (defScope (stm 23)) .none kV23 dc23 pm23 an23 cd23 ct23), sl23⟩) (c23 : PySem.W.codeIn K cd23 "_law_moved" = true) (k23 : PySem.W.keepIn K (.ref f23) = true)
    {f24 : Addr} {od24 an24 : Option Addr} {sl24 : Array (Option Value)} {oc24 kV24 dc24 pm24 cd24 ct24 : Value}
    (a24 : PySem.W.nsIn K mainGlobals "_law_tops" = some (some (.ref f24))) (l24 : K.lookup f24 = some ⟨oc24, od24, .func (PySem.W.fnOf "_law_tops" "_law_tops" (defArgs (stm 24)) (defBody (stm 24)) (defScope (stm 24)) .none kV24 dc24 pm24 an24 cd24 ct24), sl24⟩) (c24 : PySem.W.codeIn K cd24 "_law_tops" = true) (k24 : PySem.W.keepIn K (.ref f24) = true)
    {f25 : Addr} {od25 an25 : Option Addr} {sl25 : Array (Option Value)} {oc25 kV25 dc25 pm25 cd25 ct25 : Value}
    (a25 : PySem.W.nsIn K mainGlobals "_law_lows" = some (some (.ref f25))) (l25 : K.lookup f25 = some ⟨oc25, od25, .func (PySem.W.fnOf "_law_lows" "_law_lows" (defArgs (stm 25)) (defBody (stm 25)) (defScope (stm 25)) .none kV25 dc25 pm25 an25 cd25 ct25), sl25⟩) (c25 : PySem.W.codeIn K cd25 "_law_lows" = true) (k25 : PySem.W.keepIn K (.ref f25) = true)
    {f26 : Addr} {od26 an26 : Option Addr} {sl26 : Array (Option Value)} {oc26 kV26 dc26 pm26 cd26 ct26 : Value}
    (a26 : PySem.W.nsIn K mainGlobals "_law_first_clash" = some (some (.ref f26))) (l26 : K.lookup f26 = some ⟨oc26, od26, .func (PySem.W.fnOf "_law_first_clash" "_law_first_clash" (defArgs (stm 26)) (defBody (stm 26)) (defScope (stm 26)) .none kV26 dc26 pm26 an26 cd26 ct26), sl26⟩) (c26 : PySem.W.codeIn K cd26 "_law_first_clash" = true) (k26 : PySem.W.keepIn K (.ref f26) = true)
    {f27 : Addr} {od27 an27 : Option Addr} {sl27 : Array (Option Value)} {oc27 kV27 dc27 pm27 cd27 ct27 : Value}
    (a27 : PySem.W.nsIn K mainGlobals "_law_lost" = some (some (.ref f27))) (l27 : K.lookup f27 = some ⟨oc27, od27, .func (PySem.W.fnOf "_law_lost" "_law_lost" (defArgs (stm 27)) (defBody (stm 27)) (defScope (stm 27)) .none kV27 dc27 pm27 an27 cd27 ct27), sl27⟩) (c27 : PySem.W.codeIn K cd27 "_law_lost" = true) (k27 : PySem.W.keepIn K (.ref f27) = true)
    {f28 : Addr} {od28 an28 : Option Addr} {sl28 : Array (Option Value)} {oc28 kV28 dc28 pm28 cd28 ct28 : Value}
    (a28 : PySem.W.nsIn K mainGlobals "_law_sure" = some (some (.ref f28))) (l28 : K.lookup f28 = some ⟨oc28, od28, .func (PySem.W.fnOf "_law_sure" "_law_sure" (defArgs (stm 28)) (defBody (stm 28)) (defScope (stm 28)) .none kV28 dc28 pm28 an28 cd28 ct28), sl28⟩) (c28 : PySem.W.codeIn K cd28 "_law_sure" = true) (k28 : PySem.W.keepIn K (.ref f28) = true)
    {f29 : Addr} {od29 an29 : Option Addr} {sl29 : Array (Option Value)} {oc29 kV29 dc29 pm29 cd29 ct29 : Value}
    (a29 : PySem.W.nsIn K mainGlobals "_law_right" = some (some (.ref f29))) (l29 : K.lookup f29 = some ⟨oc29, od29, .func (PySem.W.fnOf "_law_right" "_law_right" (defArgs (stm 29)) (defBody (stm 29)) (defScope (stm 29)) .none kV29 dc29 pm29 an29 cd29 ct29), sl29⟩) (c29 : PySem.W.codeIn K cd29 "_law_right" = true) (k29 : PySem.W.keepIn K (.ref f29) = true)
    {f30 : Addr} {od30 an30 : Option Addr} {sl30 : Array (Option Value)} {oc30 kV30 dc30 pm30 cd30 ct30 : Value}
    (a30 : PySem.W.nsIn K mainGlobals "_law_spoilt" = some (some (.ref f30))) (l30 : K.lookup f30 = some ⟨oc30, od30, .func (PySem.W.fnOf "_law_spoilt" "_law_spoilt" (defArgs (stm 30)) (defBody (stm 30)) (defScope (stm 30)) .none kV30 dc30 pm30 an30 cd30 ct30), sl30⟩) (c30 : PySem.W.codeIn K cd30 "_law_spoilt" = true) (k30 : PySem.W.keepIn K (.ref f30) = true)
    {f31 : Addr} {od31 an31 : Option Addr} {sl31 : Array (Option Value)} {oc31 kV31 dc31 pm31 cd31 ct31 : Value}
    (a31 : PySem.W.nsIn K mainGlobals "_law_two_pins" = some (some (.ref f31))) (l31 : K.lookup f31 = some ⟨oc31, od31, .func (PySem.W.fnOf "_law_two_pins" "_law_two_pins" (defArgs (stm 31)) (defBody (stm 31)) (defScope (stm 31)) .none kV31 dc31 pm31 an31 cd31 ct31), sl31⟩) (c31 : PySem.W.codeIn K cd31 "_law_two_pins" = true) (k31 : PySem.W.keepIn K (.ref f31) = true)
    {f32 : Addr} {od32 an32 : Option Addr} {sl32 : Array (Option Value)} {oc32 kV32 dc32 pm32 cd32 ct32 : Value}
    (a32 : PySem.W.nsIn K mainGlobals "_law_grown" = some (some (.ref f32))) (l32 : K.lookup f32 = some ⟨oc32, od32, .func (PySem.W.fnOf "_law_grown" "_law_grown" (defArgs (stm 32)) (defBody (stm 32)) (defScope (stm 32)) .none kV32 dc32 pm32 an32 cd32 ct32), sl32⟩) (c32 : PySem.W.codeIn K cd32 "_law_grown" = true) (k32 : PySem.W.keepIn K (.ref f32) = true)
    {f33 : Addr} {od33 an33 : Option Addr} {sl33 : Array (Option Value)} {oc33 kV33 dc33 pm33 cd33 ct33 : Value}
    (a33 : PySem.W.nsIn K mainGlobals "law" = some (some (.ref f33))) (l33 : K.lookup f33 = some ⟨oc33, od33, .func (PySem.W.fnOf "law" "law" (defArgs (stm 33)) (defBody (stm 33)) (defScope (stm 33)) .none kV33 dc33 pm33 an33 cd33 ct33), sl33⟩) (c33 : PySem.W.codeIn K cd33 "law" = true) (k33 : PySem.W.keepIn K (.ref f33) = true)
    (z_len : PySem.W.nsIn K mainGlobals "len" = some none) (z_sum : PySem.W.nsIn K mainGlobals "sum" = some none) (z_max : PySem.W.nsIn K mainGlobals "max" = some none) (z_min : PySem.W.nsIn K mainGlobals "min" = some none) (z_range : PySem.W.nsIn K mainGlobals "range" = some none) (z_enumerate : PySem.W.nsIn K mainGlobals "enumerate" = some none) (z_zip : PySem.W.nsIn K mainGlobals "zip" = some none) (z_int : PySem.W.nsIn K mainGlobals "int" = some none) (z_bool : PySem.W.nsIn K mainGlobals "bool" = some none) (z_str : PySem.W.nsIn K mainGlobals "str" = some none) (z_isinstance : PySem.W.nsIn K mainGlobals "isinstance" = some none) (z_list : PySem.W.nsIn K mainGlobals "list" = some none) (z_tuple : PySem.W.nsIn K mainGlobals "tuple" = some none) (z_sorted : PySem.W.nsIn K mainGlobals "sorted" = some none) :
    ∃ fd : FuncData, (∀ (s : Shared) (v : Value), BindsTo s fd ⟨[v], []⟩ [("script", v)]) ∧ ∀ base : Heap, K.In base → base.Ns mainGlobals mg → FnOk l.prog w K mg base CX0 9 fa fd ["script"] (lawC K 63).sp := by
  have e := hfa.symm.trans (PySem.W.mg_of X G a33)
  cases e
  have F1 := fun_mk (st := stm 1) l1 c1 k1
  have b1 := F1.binds (ps := ["row"]) fun _ _ _ _ _ _ us hl => match us, hl with | [_], _ => rfl
  have F2 := fun_mk (st := stm 2) l2 c2 k2
  have b2 := F2.binds (ps := ["row"]) fun _ _ _ _ _ _ us hl => match us, hl with | [_], _ => rfl
  have F3 := fun_mk (st := stm 3) l3 c3 k3
  have b3 := F3.binds (ps := ["rows", "k"]) fun _ _ _ _ _ _ us hl => match us, hl with | [_, _], _ => rfl
  have F4 := fun_mk (st := stm 4) l4 c4 k4
  have b4 := F4.binds (ps := ["rows"]) fun _ _ _ _ _ _ us hl => match us, hl with | [_], _ => rfl
  have F5 := fun_mk (st := stm 5) l5 c5 k5
  have b5 := F5.binds (ps := ["rows"]) fun _ _ _ _ _ _ us hl => match us, hl with | [_], _ => rfl
  have F6 := fun_mk (st := stm 6) l6 c6 k6
  have b6 := F6.binds (ps := ["rows"]) fun _ _ _ _ _ _ us hl => match us, hl with | [_], _ => rfl
  have F7 := fun_mk (st := stm 7) l7 c7 k7
  have b7 := F7.binds (ps := ["rows"]) fun _ _ _ _ _ _ us hl => match us, hl with | [_], _ => rfl
  have F8 := fun_mk (st := stm 8) l8 c8 k8
  have b8 := F8.binds (ps := ["rows", "losses"]) fun _ _ _ _ _ _ us hl => match us, hl with | [_, _], _ => rfl
  have F9 := fun_mk (st := stm 9) l9 c9 k9
  have b9 := F9.binds (ps := ["rows"]) fun _ _ _ _ _ _ us hl => match us, hl with | [_], _ => rfl
  have F10 := fun_mk (st := stm 10) l10 c10 k10
  have b10 := F10.binds (ps := ["rows", "at"]) fun _ _ _ _ _ _ us hl => match us, hl with | [_, _], _ => rfl
  have F11 := fun_mk (st := stm 11) l11 c11 k11
  have b11 := F11.binds (ps := ["rows", "k"]) fun _ _ _ _ _ _ us hl => match us, hl with | [_, _], _ => rfl
  have F12 := fun_mk (st := stm 12) l12 c12 k12
  have b12 := F12.binds (ps := ["rows"]) fun _ _ _ _ _ _ us hl => match us, hl with | [_], _ => rfl
  have F13 := fun_mk (st := stm 13) l13 c13 k13
  have b13 := F13.binds (ps := ["rows", "j", "k"]) fun _ _ _ _ _ _ us hl => match us, hl with | [_, _, _], _ => rfl
  have F14 := fun_mk (st := stm 14) l14 c14 k14
  have b14 := F14.binds (ps := ["rows", "j", "k"]) fun _ _ _ _ _ _ us hl => match us, hl with | [_, _, _], _ => rfl
  have F15 := fun_mk (st := stm 15) l15 c15 k15
  have b15 := F15.binds (ps := ["rows", "j", "k"]) fun _ _ _ _ _ _ us hl => match us, hl with | [_, _, _], _ => rfl
  have F16 := fun_mk (st := stm 16) l16 c16 k16
  have b16 := F16.binds (ps := ["rows", "k"]) fun _ _ _ _ _ _ us hl => match us, hl with | [_, _], _ => rfl
  have F17 := fun_mk (st := stm 17) l17 c17 k17
  have b17 := F17.binds (ps := ["rows"]) fun _ _ _ _ _ _ us hl => match us, hl with | [_], _ => rfl
  have F19 := fun_mk (st := stm 19) l19 c19 k19
  have b19 := F19.binds (ps := ["script"]) fun _ _ _ _ _ _ us hl => match us, hl with | [_], _ => rfl
  have F20 := fun_mk (st := stm 20) l20 c20 k20
  have b20 := F20.binds (ps := ["pot", "many"]) fun _ _ _ _ _ _ us hl => match us, hl with | [_, _], _ => rfl
  have F21 := fun_mk (st := stm 21) l21 c21 k21
  have b21 := F21.binds (ps := ["told", "due"]) fun _ _ _ _ _ _ us hl => match us, hl with | [_, _], _ => rfl
  have F22 := fun_mk (st := stm 22) l22 c22 k22
  have b22 := F22.binds (ps := ["pot"]) fun _ _ _ _ _ _ us hl => match us, hl with | [_], _ => rfl
  have F23 := fun_mk (st := stm 23) l23 c23 k23
  have b23 := F23.binds (ps := ["rows", "j", "k"]) fun _ _ _ _ _ _ us hl => match us, hl with | [_, _, _], _ => rfl
  have F24 := fun_mk (st := stm 24) l24 c24 k24
  have b24 := F24.binds (ps := ["rows"]) fun _ _ _ _ _ _ us hl => match us, hl with | [_], _ => rfl
  have F25 := fun_mk (st := stm 25) l25 c25 k25
  have b25 := F25.binds (ps := ["rows"]) fun _ _ _ _ _ _ us hl => match us, hl with | [_], _ => rfl
  have F26 := fun_mk (st := stm 26) l26 c26 k26
  have b26 := F26.binds (ps := ["rows", "k"]) fun _ _ _ _ _ _ us hl => match us, hl with | [_, _], _ => rfl
  have F27 := fun_mk (st := stm 27) l27 c27 k27
  have b27 := F27.binds (ps := ["rows", "j", "k", "lows", "tops"]) fun _ _ _ _ _ _ us hl => match us, hl with | [_, _, _, _, _], _ => rfl
  have F28 := fun_mk (st := stm 28) l28 c28 k28
  have b28 := F28.binds (ps := ["rows", "lows"]) fun _ _ _ _ _ _ us hl => match us, hl with | [_, _], _ => rfl
  have F29 := fun_mk (st := stm 29) l29 c29 k29
  have b29 := F29.binds (ps := ["rows", "moments", "handed"]) fun _ _ _ _ _ _ us hl => match us, hl with | [_, _, _], _ => rfl
  have F30 := fun_mk (st := stm 30) l30 c30 k30
  have b30 := F30.binds (ps := ["pot", "rows"]) fun _ _ _ _ _ _ us hl => match us, hl with | [_, _], _ => rfl
  have F31 := fun_mk (st := stm 31) l31 c31 k31
  have b31 := F31.binds (ps := ["pot", "one", "k"]) fun _ _ _ _ _ _ us hl => match us, hl with | [_, _, _], _ => rfl
  have F32 := fun_mk (st := stm 32) l32 c32 k32
  have b32 := F32.binds (ps := ["pot", "rows"]) fun _ _ _ _ _ _ us hl => match us, hl with | [_, _], _ => rfl
  have F33 := fun_mk (st := stm 33) l33 c33 k33
  refine ⟨PySem.W.fnOf "law" "law" (defArgs (stm 33)) (defBody (stm 33)) (defScope (stm 33)) .none kV33 dc33 pm33 an33 cd33 ct33, fun s v => .of_eq rfl, fun base _ _ => ?_⟩
  have Bl : Blt ⟨l.prog, w, K, mg, base⟩ := ⟨PySem.W.mg_none_of X G z_len, PySem.W.mg_none_of X G z_sum, PySem.W.mg_none_of X G z_max, PySem.W.mg_none_of X G z_min, PySem.W.mg_none_of X G z_range, PySem.W.mg_none_of X G z_enumerate, PySem.W.mg_none_of X G z_zip, PySem.W.mg_none_of X G z_int, PySem.W.mg_none_of X G z_bool, PySem.W.mg_none_of X G z_str, PySem.W.mg_none_of X G z_isinstance, PySem.W.mg_none_of X G z_list, PySem.W.mg_none_of X G z_tuple, PySem.W.mg_none_of X G z_sorted⟩
  have P1 : Pr ⟨l.prog, w, K, mg, base⟩ "change_of" (stm 1) ["row"] := ⟨f1, _, F1, PySem.W.mg_of X G a1, b1⟩
  have P2 : Pr ⟨l.prog, w, K, mg, base⟩ "wanted_behind" (stm 2) ["row"] := ⟨f2, _, F2, PySem.W.mg_of X G a2, b2⟩
  have P3 : Pr ⟨l.prog, w, K, mg, base⟩ "book_count" (stm 3) ["rows", "k"] := ⟨f3, _, F3, PySem.W.mg_of X G a3, b3⟩
  have P4 : Pr ⟨l.prog, w, K, mg, base⟩ "book_counts" (stm 4) ["rows"] := ⟨f4, _, F4, PySem.W.mg_of X G a4, b4⟩
  have P5 : Pr ⟨l.prog, w, K, mg, base⟩ "least_tolls" (stm 5) ["rows"] := ⟨f5, _, F5, PySem.W.mg_of X G a5, b5⟩
  have P6 : Pr ⟨l.prog, w, K, mg, base⟩ "most_tolls" (stm 6) ["rows"] := ⟨f6, _, F6, PySem.W.mg_of X G a6, b6⟩
  have P7 : Pr ⟨l.prog, w, K, mg, base⟩ "least_losses" (stm 7) ["rows"] := ⟨f7, _, F7, PySem.W.mg_of X G a7, b7⟩
  have P8 : Pr ⟨l.prog, w, K, mg, base⟩ "are_explained" (stm 8) ["rows", "losses"] := ⟨f8, _, F8, PySem.W.mg_of X G a8, b8⟩
  have P9 : Pr ⟨l.prog, w, K, mg, base⟩ "can_be" (stm 9) ["rows"] := ⟨f9, _, F9, PySem.W.mg_of X G a9, b9⟩
  have P10 : Pr ⟨l.prog, w, K, mg, base⟩ "top_behind" (stm 10) ["rows", "at"] := ⟨f10, _, F10, PySem.W.mg_of X G a10, b10⟩
  have P11 : Pr ⟨l.prog, w, K, mg, base⟩ "clash_at" (stm 11) ["rows", "k"] := ⟨f11, _, F11, PySem.W.mg_of X G a11, b11⟩
  have P12 : Pr ⟨l.prog, w, K, mg, base⟩ "clash" (stm 12) ["rows"] := ⟨f12, _, F12, PySem.W.mg_of X G a12, b12⟩
  have P13 : Pr ⟨l.prog, w, K, mg, base⟩ "least_lost" (stm 13) ["rows", "j", "k"] := ⟨f13, _, F13, PySem.W.mg_of X G a13, b13⟩
  have P14 : Pr ⟨l.prog, w, K, mg, base⟩ "most_lost" (stm 14) ["rows", "j", "k"] := ⟨f14, _, F14, PySem.W.mg_of X G a14, b14⟩
  have P15 : Pr ⟨l.prog, w, K, mg, base⟩ "lost_range" (stm 15) ["rows", "j", "k"] := ⟨f15, _, F15, PySem.W.mg_of X G a15, b15⟩
  have P16 : Pr ⟨l.prog, w, K, mg, base⟩ "there_range" (stm 16) ["rows", "k"] := ⟨f16, _, F16, PySem.W.mg_of X G a16, b16⟩
  have P17 : Pr ⟨l.prog, w, K, mg, base⟩ "sure_losses" (stm 17) ["rows"] := ⟨f17, _, F17, PySem.W.mg_of X G a17, b17⟩
  have P19 : Pr ⟨l.prog, w, K, mg, base⟩ "_law_pot" (stm 19) ["script"] := ⟨f19, _, F19, PySem.W.mg_of X G a19, b19⟩
  have P20 : Pr ⟨l.prog, w, K, mg, base⟩ "_law_draw" (stm 20) ["pot", "many"] := ⟨f20, _, F20, PySem.W.mg_of X G a20, b20⟩
  have P21 : Pr ⟨l.prog, w, K, mg, base⟩ "_law_same" (stm 21) ["told", "due"] := ⟨f21, _, F21, PySem.W.mg_of X G a21, b21⟩
  have P22 : Pr ⟨l.prog, w, K, mg, base⟩ "_law_rows" (stm 22) ["pot"] := ⟨f22, _, F22, PySem.W.mg_of X G a22, b22⟩
  have P23 : Pr ⟨l.prog, w, K, mg, base⟩ "_law_moved" (stm 23) ["rows", "j", "k"] := ⟨f23, _, F23, PySem.W.mg_of X G a23, b23⟩
  have P24 : Pr ⟨l.prog, w, K, mg, base⟩ "_law_tops" (stm 24) ["rows"] := ⟨f24, _, F24, PySem.W.mg_of X G a24, b24⟩
  have P25 : Pr ⟨l.prog, w, K, mg, base⟩ "_law_lows" (stm 25) ["rows"] := ⟨f25, _, F25, PySem.W.mg_of X G a25, b25⟩
  have P26 : Pr ⟨l.prog, w, K, mg, base⟩ "_law_first_clash" (stm 26) ["rows", "k"] := ⟨f26, _, F26, PySem.W.mg_of X G a26, b26⟩
  have P27 : Pr ⟨l.prog, w, K, mg, base⟩ "_law_lost" (stm 27) ["rows", "j", "k", "lows", "tops"] := ⟨f27, _, F27, PySem.W.mg_of X G a27, b27⟩
  have P28 : Pr ⟨l.prog, w, K, mg, base⟩ "_law_sure" (stm 28) ["rows", "lows"] := ⟨f28, _, F28, PySem.W.mg_of X G a28, b28⟩
  have P29 : Pr ⟨l.prog, w, K, mg, base⟩ "_law_right" (stm 29) ["rows", "moments", "handed"] := ⟨f29, _, F29, PySem.W.mg_of X G a29, b29⟩
  have P30 : Pr ⟨l.prog, w, K, mg, base⟩ "_law_spoilt" (stm 30) ["pot", "rows"] := ⟨f30, _, F30, PySem.W.mg_of X G a30, b30⟩
  have P31 : Pr ⟨l.prog, w, K, mg, base⟩ "_law_two_pins" (stm 31) ["pot", "one", "k"] := ⟨f31, _, F31, PySem.W.mg_of X G a31, b31⟩
  have P32 : Pr ⟨l.prog, w, K, mg, base⟩ "_law_grown" (stm 32) ["pot", "rows"] := ⟨f32, _, F32, PySem.W.mg_of X G a32, b32⟩
  have G1 := ok1 P1
  have G2 := ok2 P2
  have G3 := ok3 Bl P3 G1
  have G4 := ok4 Bl P4 G1
  have G5 := ok5 Bl P5 G4
  have G6 := ok6 Bl P6 G4 G2
  have G7 := ok7 Bl P7 G5
  have G8 := ok8 Bl P8 G1 G2
  have G9 := ok9 P9 G7 G8
  have G10 := ok10 Bl P10
  have G11 := ok11 Bl P11 G4 G2 G10
  have G12 := ok12 Bl P12 G11
  have G13 := ok13 Bl P13 G5 G6
  have G14 := ok14 Bl P14 G5 G6
  have G15 := ok15 Bl P15 G9 G13 G14
  have G16 := ok16 Bl P16 G9 G3 G5 G6
  have G17 := ok17 Bl P17 G9 G5 G6
  have Gpot := okpot Bl P19
  have Gdr := okdr Bl P20
  have S0 := oks0 Bl P21
  have S1 : Gd _ 2 "_law_same" ["told", "due"] s1 := oksT Bl P21 S0 (fun _ => rfl) (fun _ => rfl) (fun _ => rfl) (fun _ => rfl)
  have S2 : Gd _ 3 "_law_same" ["told", "due"] s2 := oksT Bl P21 S1 (fun _ => rfl) (fun _ => rfl) (fun _ => rfl) (fun _ => rfl)
  have Grws := okrws Bl P22 Gdr
  have F1' := okf1 Bl P23
  have F2' := okf2 Bl P24
  have F3' := okf3 Bl P25
  have F4' := okf4 Bl P26 F1'
  have F5' := okf5 Bl P27 F1'
  have F6' := okf6 Bl P28
  have GR := okrgt Bl P29 F2' F3' F4' F5' F6' F1' G3 G9 G12 G15 G16 G17 (oksB S0) (oksI S0) (oksO S0 S1).1 (oksO S0 S1).2 (oksQ S2)
  have Gspl := okspl Bl P30 Gdr F2'
  have Gtpn := oktpn Bl P31 Gdr F2' F3' F1' G15 GR (oksO S0 S1).2
  have Ggro := okgro Bl P32 Gdr F2' F3' G16 GR (oksO S0 S1).2
  exact oklaw Bl F33 Gpot Gdr Grws Gspl F2' F3' GR Gtpn Ggro
end K19
open PySem PySem.W PyProof.Rows
set_option maxHeartbeats 0 in
theorem PySem.Challenge.cw_oncecounted_k19_sightings_pin_losses_holds : PySem.Challenge.rw_oncecounted_k19_sightings_pin_losses.Holds := by
  w_on; o_law; k_head; (case hw => w_witness2)
  k_fill
  refine L2.walk_of (l := PySem.Challenge.rw_oncecounted_k19_sightings_pin_losses) (n := 63) (k := 9) (x := "script") (CX := fun _ => L2.CX0) (sp := fun w => (ZZ.lawC _ 63).sp) rfl (by decide) rfl ⟨rfl, by decide, by decide⟩ (fun w h Y => PySem.W.kIn_of Y) ?F (fun _ _ a ns hl _ hS => ZZ.law_sp hl hS) (fun _ _ _ _ _ h => h)
  case F =>
    intro w mg fa h KX G hmg
    refine' K19.all_mk KX G hmg ?a1 ?l1 ?c1 ?k1 ?a2 ?l2 ?c2 ?k2 ?a3 ?l3 ?c3 ?k3 ?a4 ?l4 ?c4 ?k4 ?a5 ?l5 ?c5 ?k5 ?a6 ?l6 ?c6 ?k6 ?a7 ?l7 ?c7 ?k7 ?a8 ?l8 ?c8 ?k8 ?a9 ?l9 ?c9 ?k9 ?a10 ?l10 ?c10 ?k10 ?a11 ?l11 ?c11 ?k11 ?a12 ?l12 ?c12 ?k12 ?a13 ?l13 ?c13 ?k13 ?a14 ?l14 ?c14 ?k14 ?a15 ?l15 ?c15 ?k15 ?a16 ?l16 ?c16 ?k16 ?a17 ?l17 ?c17 ?k17 ?a19 ?l19 ?c19 ?k19 ?a20 ?l20 ?c20 ?k20 ?a21 ?l21 ?c21 ?k21 ?a22 ?l22 ?c22 ?k22 ?a23 ?l23 ?c23 ?k23 ?a24 ?l24 ?c24 ?k24 ?a25 ?l25 ?c25 ?k25 ?a26 ?l26 ?c26 ?k26 ?a27 ?l27 ?c27 ?k27 ?a28 ?l28 ?c28 ?k28 ?a29 ?l29 ?c29 ?k29 ?a30 ?l30 ?c30 ?k30 ?a31 ?l31 ?c31 ?k31 ?a32 ?l32 ?c32 ?k32 ?a33 ?l33 ?c33 ?k33 ?z_len ?z_sum ?z_max ?z_min ?z_range ?z_enumerate ?z_zip ?z_int ?z_bool ?z_str ?z_isinstance ?z_list ?z_tuple ?z_sorted
    (case a1 => k_is); (case l1 => k_is); (case c1 => k_is); (case k1 => k_is); (case a2 => k_is); (case l2 => k_is); (case c2 => k_is); (case k2 => k_is); (case a3 => k_is); (case l3 => k_is); (case c3 => k_is); (case k3 => k_is); (case a4 => k_is); (case l4 => k_is); (case c4 => k_is); (case k4 => k_is); (case a5 => k_is); (case l5 => k_is); (case c5 => k_is); (case k5 => k_is); (case a6 => k_is); (case l6 => k_is); (case c6 => k_is); (case k6 => k_is); (case a7 => k_is); (case l7 => k_is); (case c7 => k_is); (case k7 => k_is); (case a8 => k_is); (case l8 => k_is); (case c8 => k_is); (case k8 => k_is); (case a9 => k_is); (case l9 => k_is); (case c9 => k_is); (case k9 => k_is); (case a10 => k_is); (case l10 => k_is); (case c10 => k_is); (case k10 => k_is); (case a11 => k_is); (case l11 => k_is); (case c11 => k_is); (case k11 => k_is); (case a12 => k_is); (case l12 => k_is); (case c12 => k_is); (case k12 => k_is); (case a13 => k_is); (case l13 => k_is); (case c13 => k_is); (case k13 => k_is); (case a14 => k_is); (case l14 => k_is); (case c14 => k_is); (case k14 => k_is); (case a15 => k_is); (case l15 => k_is); (case c15 => k_is); (case k15 => k_is); (case a16 => k_is); (case l16 => k_is); (case c16 => k_is); (case k16 => k_is); (case a17 => k_is); (case l17 => k_is); (case c17 => k_is); (case k17 => k_is); (case a19 => k_is); (case l19 => k_is); (case c19 => k_is); (case k19 => k_is); (case a20 => k_is); (case l20 => k_is); (case c20 => k_is); (case k20 => k_is); (case a21 => k_is); (case l21 => k_is); (case c21 => k_is); (case k21 => k_is); (case a22 => k_is); (case l22 => k_is); (case c22 => k_is); (case k22 => k_is); (case a23 => k_is); (case l23 => k_is); (case c23 => k_is); (case k23 => k_is); (case a24 => k_is); (case l24 => k_is); (case c24 => k_is); (case k24 => k_is); (case a25 => k_is); (case l25 => k_is); (case c25 => k_is); (case k25 => k_is); (case a26 => k_is); (case l26 => k_is); (case c26 => k_is); (case k26 => k_is); (case a27 => k_is); (case l27 => k_is); (case c27 => k_is); (case k27 => k_is); (case a28 => k_is); (case l28 => k_is); (case c28 => k_is); (case k28 => k_is); (case a29 => k_is); (case l29 => k_is); (case c29 => k_is); (case k29 => k_is); (case a30 => k_is); (case l30 => k_is); (case c30 => k_is); (case k30 => k_is); (case a31 => k_is); (case l31 => k_is); (case c31 => k_is); (case k31 => k_is); (case a32 => k_is); (case l32 => k_is); (case c32 => k_is); (case k32 => k_is); (case a33 => k_is); (case l33 => k_is); (case c33 => k_is); (case k33 => k_is); (case z_len => k_is); (case z_sum => k_is); (case z_max => k_is); (case z_min => k_is); (case z_range => k_is); (case z_enumerate => k_is); (case z_zip => k_is); (case z_int => k_is); (case z_bool => k_is); (case z_str => k_is); (case z_isinstance => k_is); (case z_list => k_is); (case z_tuple => k_is); (case z_sorted => k_is)

