import PyProof.Rows.All
import Wide.All
import OpenK.AllK
import Wide.FinOn
import HandS.ForMost
import HandS.Evl
import HandS.Walk
import HandS.Style
import HandS.IsInst
import HandS.HotCalls
import HandS.TupAny
import KE.GoesEnum
import HandS.Gcd
import HandS.SortInts
import KE.KTupSum
import PyProof.TupleOfSeq
import HandS.ExcInit
import HandS.ExcField
import HandS.WordsExc
import KE.KExcIs
import HandS.RaiseFrom
import PySem.Challenge.RW_oncecounted_k27_whole_outlook_sets_level
import HandS.ExcIs
set_option Elab.async false
set_option linter.all false
set_option maxRecDepth 100000
set_option maxHeartbeats 2000000
/-! Z1: shapes, environments, owned cells, judgements. -/
namespace ZZ
open PySem PySem.Spec PyProof.Rows L2
open Evl (Ex)

/-! ### shapes: what a value is, over a heap that only grows -/
structure Sh where
  p : Hp → V → Prop
  mono : ∀ {B B' : Hp} {v : V}, Ex B B' → p B v → p B' v
def Sc (v : V) : Sh := ⟨fun _ u => u = v, fun _ h => h⟩
abbrev I (i : Int) : Sh := Sc (.int i)
abbrev Bo (b : Bool) : Sh := Sc (.bl b)
abbrev No : Sh := Sc .non
abbrev Tx (s : Str) : Sh := Sc (.str s)
inductive All2 {α β : Type} (R : α → β → Prop) : List α → List β → Prop
  | nil : All2 R [] []
  | cons {a b l m} : R a b → All2 R l m → All2 R (a :: l) (b :: m)
theorem All2.mp {α β : Type} {R S : α → β → Prop} (f : ∀ a b, R a b → S a b) : ∀ {l : List α} {m : List β}, All2 R l m → All2 S l m
  | _, _, .nil => .nil
  | _, _, .cons h t => .cons (f _ _ h) (t.mp f)
theorem All2.len {α β : Type} {R : α → β → Prop} : ∀ {l : List α} {m : List β}, All2 R l m → l.length = m.length
  | _, _, .nil => rfl
  | _, _, .cons _ t => by simp [t.len]
theorem All2.get {α β : Type} {R : α → β → Prop} : ∀ {l : List α} {m : List β} {i : Nat} {b : β}, All2 R l m → m[i]? = some b → ∃ a, l[i]? = some a ∧ R a b
  | _, _, _, _, .nil, e => by simp at e
  | _, _, 0, _, .cons h _, e => by simp at e; subst e; exact ⟨_, rfl, h⟩
  | _, _, i + 1, _, .cons _ t, e => by
    obtain ⟨a, h1, h2⟩ := All2.get (i := i) t (by simpa using e)
    exact ⟨a, by simpa using h1, h2⟩
theorem All2.get' {α β : Type} {R : α → β → Prop} : ∀ {l : List α} {m : List β} {i : Nat} {a : α}, All2 R l m → l[i]? = some a → ∃ b, m[i]? = some b ∧ R a b
  | _, _, _, _, .nil, e => by simp at e
  | _, _, 0, _, .cons h _, e => by simp at e; subst e; exact ⟨_, rfl, h⟩
  | _, _, i + 1, _, .cons _ t, e => by
    obtain ⟨a, h1, h2⟩ := All2.get' (i := i) t (by simpa using e)
    exact ⟨a, by simpa using h1, h2⟩
theorem All2.append {α β : Type} {R : α → β → Prop} : ∀ {l l' : List α} {m m' : List β}, All2 R l m → All2 R l' m' → All2 R (l ++ l') (m ++ m')
  | _, _, _, _, .nil, h => h
  | _, _, _, _, .cons h t, h' => .cons h (t.append h')
theorem All2.take {α β : Type} {R : α → β → Prop} : ∀ {l : List α} {m : List β} (n : Nat), All2 R l m → All2 R (l.take n) (m.take n)
  | _, _, 0, _ => by simp; exact .nil
  | _, _, _ + 1, .nil => .nil
  | _, _, n + 1, .cons h t => .cons h (t.take n)
theorem All2.drop {α β : Type} {R : α → β → Prop} : ∀ {l : List α} {m : List β} (n : Nat), All2 R l m → All2 R (l.drop n) (m.drop n)
  | _, _, 0, h => h
  | _, _, _ + 1, .nil => .nil
  | _, _, n + 1, .cons _ t => t.drop n
theorem All2.set {α β : Type} {R : α → β → Prop} {a : α} {b : β} (r : R a b) : ∀ {l : List α} {m : List β} (i : Nat), All2 R l m → All2 R (l.set i a) (m.set i b)
  | _, _, _, .nil => .nil
  | _, _, 0, .cons _ t => .cons r t
  | _, _, i + 1, .cons h t => .cons h (All2.set r i t)
theorem All2.map_r {α β γ : Type} {R : α → β → Prop} {f : γ → β} : ∀ {l : List α} {m : List γ}, All2 (fun a c => R a (f c)) l m → All2 R l (m.map f)
  | _, _, .nil => .nil
  | _, _, .cons h t => .cons h t.map_r
theorem All2.of_map {α β γ : Type} {R : α → β → Prop} {f : γ → β} : ∀ {l : List α} {m : List γ}, All2 R l (m.map f) → All2 (fun a c => R a (f c)) l m
  | [], [], _ => .nil
  | _ :: _, _ :: _, .cons h t => .cons h (All2.of_map t)

/-- a list, a tuple, all of whose items are of one kind -/
def Sq (b : Bool) {α : Type} (R : α → Sh) (xs : List α) : Sh :=
  ⟨fun B u => ∃ a vs, u = .ref a ∧ B a = some (if b then .lst vs else .tup vs) ∧ All2 (fun v x => (R x).p B v) vs xs,
   fun e h => let ⟨a, vs, h1, h2, h3⟩ := h; ⟨a, vs, h1, e a _ h2, h3.mp fun _ _ q => (R _).mono e q⟩⟩
abbrev L {α : Type} (R : α → Sh) (xs : List α) : Sh := Sq true R xs
/-- a tuple of told shapes -/
def U (ss : List Sh) : Sh :=
  ⟨fun B u => ∃ a vs, u = .ref a ∧ B a = some (.tup vs) ∧ All2 (fun v (s : Sh) => s.p B v) vs ss,
   fun e h => let ⟨a, vs, h1, h2, h3⟩ := h; ⟨a, vs, h1, e a _ h2, h3.mp fun _ s q => s.mono e q⟩⟩
/-- some x with P x -/
def Es {α : Type} (P : α → Prop) (R : α → Sh) : Sh := ⟨fun B u => ∃ x, P x ∧ (R x).p B u, fun e h => let ⟨x, h1, h2⟩ := h; ⟨x, h1, (R x).mono e h2⟩⟩
/-- the very address -/
abbrev At (a : Addr) : Sh := Sc (.ref a)
/-- at most as wide -/
def Sle (S T : Sh) : Prop := ∀ B v, S.p B v → T.p B v
theorem Sle.refl {S : Sh} : Sle S S := fun _ _ h => h
theorem Sle.es {α : Type} {P : α → Prop} {R : α → Sh} {x : α} (h : P x) : Sle (R x) (Es P R) := fun _ _ q => ⟨x, h, q⟩

/-! ### environments -/
abbrev En := List (Str × Option Sh)
def EnvOk : En → L2.St → Hp → Prop
  | [], [], _ => True
  | (_, none) :: Γ, _ :: σ, B => EnvOk Γ σ B
  | (_, some S) :: Γ, o :: σ, B => (∃ v, o = some v ∧ S.p B v) ∧ EnvOk Γ σ B
  | _, _, _ => False
theorem EnvOk.mono : ∀ {Γ : En} {σ : L2.St} {B B' : Hp}, Ex B B' → EnvOk Γ σ B → EnvOk Γ σ B'
  | [], [], _, _, _, _ => trivial
  | (_, none) :: Γ, _ :: σ, _, _, e, h => EnvOk.mono (Γ := Γ) (σ := σ) e h
  | (_, some S) :: Γ, o :: σ, _, _, e, h => ⟨let ⟨v, h1, h2⟩ := h.1; ⟨v, h1, S.mono e h2⟩, EnvOk.mono (Γ := Γ) (σ := σ) e h.2⟩
  | [], _ :: _, _, _, _, h => h.elim
  | (_, none) :: _, [], _, _, _, h => h.elim
  | (_, some _) :: _, [], _, _, _, h => h.elim
inductive Has : En → Str → Sh → Prop
  | z {Γ x S} : Has ((x, some S) :: Γ) x S
  | s {Γ e x S} : Has Γ x S → Has (e :: Γ) x S
theorem Has.get : ∀ {Γ : En} {x : Str} {S : Sh} {σ : L2.St} {B : Hp}, Has Γ x S → EnvOk Γ σ B → ∃ (i : Nat) (v : V), (Γ.map (·.1))[i]? = some x ∧ σ[i]? = some (some v) ∧ S.p B v
  | _, _, _, [], _, .z, h => h.elim
  | _, _, _, o :: σ, _, .z, h => by
    obtain ⟨⟨v, h1, h2⟩, _⟩ := h
    exact ⟨0, v, rfl, by simp [h1], h2⟩
  | (y, none) :: Γ, x, S, o :: σ, B, .s hh, h => by
    obtain ⟨i, v, h1, h2, h3⟩ := Has.get (σ := σ) hh h
    exact ⟨i + 1, v, by simpa using h1, by simpa using h2, h3⟩
  | (y, some T) :: Γ, x, S, o :: σ, B, .s hh, h => by
    obtain ⟨i, v, h1, h2, h3⟩ := Has.get (σ := σ) hh h.2
    exact ⟨i + 1, v, by simpa using h1, by simpa using h2, h3⟩
  | (_, none) :: _, _, _, [], _, .s _, h => h.elim
  | (_, some _) :: _, _, _, [], _, .s _, h => h.elim
inductive Put : En → Str → Option Sh → En → Prop
  | z {Γ x o o'} : Put ((x, o) :: Γ) x o' ((x, o') :: Γ)
  | s {Γ e x o Γ'} : Put Γ x o Γ' → Put (e :: Γ) x o (e :: Γ')
theorem Put.names : ∀ {Γ Γ' : En} {x : Str} {o : Option Sh}, Put Γ x o Γ' → Γ'.map (·.1) = Γ.map (·.1)
  | _, _, _, _, .z => rfl
  | _, _, _, _, .s h => by simp [h.names]
theorem Put.set : ∀ {Γ Γ' : En} {x : Str} {S : Sh}, Put Γ x (some S) Γ' → ∃ i : Nat, (Γ.map (·.1))[i]? = some x ∧ ∀ (σ : L2.St) (B : Hp) (v : V), EnvOk Γ σ B → S.p B v → EnvOk Γ' (σ.set i (some v)) B
  | _, _, _, S, .z (Γ := Γ) (x := x) (o := o) => by
    refine ⟨0, rfl, fun σ B v h q => ?_⟩
    cases σ with
    | nil => cases o <;> exact h.elim
    | cons a σ =>
      refine ⟨⟨v, rfl, q⟩, ?_⟩
      cases o with
      | none => exact h
      | some T => exact h.2
  | _, _, _, S, .s (e := e) hp => by
    obtain ⟨i, h1, h2⟩ := Put.set hp
    refine ⟨i + 1, by simpa using h1, fun σ B v h q => ?_⟩
    obtain ⟨y, o⟩ := e
    cases σ with
    | nil => cases o <;> exact h.elim
    | cons a σ =>
      cases o with
      | none => exact h2 σ B v h q
      | some T => exact ⟨h.1, h2 σ B v h.2 q⟩
theorem Put.ix : ∀ {Γ Γ' : En} {x : Str} {o : Option Sh}, Put Γ x o Γ' → ∃ i : Nat, (Γ.map (·.1))[i]? = some x
  | _, _, _, _, .z => ⟨0, rfl⟩
  | _, _, _, _, .s h => let ⟨i, e⟩ := h.ix; ⟨i + 1, by simpa using e⟩
/-- forgetting -/
inductive Fg : En → En → Prop
  | nil : Fg [] []
  | drop {Γ Γ' x o} : Fg Γ Γ' → Fg ((x, o) :: Γ) ((x, none) :: Γ')
  | keep {Γ Γ' x o o'} : o = o' → Fg Γ Γ' → Fg ((x, o) :: Γ) ((x, o') :: Γ')
  | wide {Γ Γ' x S T} : Sle S T → Fg Γ Γ' → Fg ((x, some S) :: Γ) ((x, some T) :: Γ')
theorem Fg.names : ∀ {Γ Γ' : En}, Fg Γ Γ' → Γ'.map (·.1) = Γ.map (·.1)
  | _, _, .nil => rfl
  | _, _, .drop h => by simp [h.names]
  | _, _, .keep _ h => by simp [h.names]
  | _, _, .wide _ h => by simp [h.names]
theorem Fg.env : ∀ {Γ Γ' : En} {σ : L2.St} {B : Hp}, Fg Γ Γ' → EnvOk Γ σ B → EnvOk Γ' σ B
  | _, _, [], _, .nil, h => h
  | _, _, _ :: _, _, .nil, h => h.elim
  | (_, none) :: _, _, _ :: σ, _, .drop f, h => f.env (σ := σ) h
  | (_, some _) :: _, _, _ :: σ, _, .drop f, h => f.env (σ := σ) h.2
  | (_, none) :: _, _, _ :: σ, _, .keep e f, h => by subst e; exact f.env (σ := σ) h
  | (_, some _) :: _, _, _ :: σ, _, .keep e f, h => by subst e; exact ⟨h.1, f.env (σ := σ) h.2⟩
  | (_, some _) :: _, _, _ :: σ, _, .wide e f, h => ⟨let ⟨v, h1, h2⟩ := h.1; ⟨v, h1, e _ _ h2⟩, f.env (σ := σ) h.2⟩
  | (_, none) :: _, _, [], _, .drop _, h => h.elim
  | (_, some _) :: _, _, [], _, .drop _, h => h.elim
  | (_, none) :: _, _, [], _, .keep _ _, h => h.elim
  | (_, some _) :: _, _, [], _, .keep _ _, h => h.elim
  | (_, some _) :: _, _, [], _, .wide _ _, h => h.elim

/-! ### owned cells -/
structure Co where
  p : Hp → HO → Prop
  mono : ∀ {B B' : Hp} {o : HO}, Ex B B' → p B o → p B' o
/-- a list of the items xs -/
def Cl {α : Type} (R : α → Sh) (xs : List α) : Co := ⟨fun B o => ∃ vs, o = .lst vs ∧ All2 (fun v x => (R x).p B v) vs xs, fun e h => let ⟨vs, h1, h2⟩ := h; ⟨vs, h1, h2.mp fun _ _ q => (R _).mono e q⟩⟩
abbrev Ws := List (Addr × Co)
structure Own (F : Hp) (ω : Ws) (B H : Hp) : Prop where
  nd : (ω.map (·.1)).Nodup
  ow : ∀ l C, (l, C) ∈ ω → B l = none ∧ F l = none ∧ ∃ o, H l = some o ∧ C.p B o
  fr : ∀ a, a ∉ ω.map (·.1) → (B a = none ∨ F a = none) ∧ H a = (B a).or (F a)
inductive Swp : Ws → Addr → Co → Co → Ws → Prop
  | z {ω l C C'} : Swp ((l, C) :: ω) l C C' ((l, C') :: ω)
  | s {ω e l C C' ω'} : Swp ω l C C' ω' → Swp (e :: ω) l C C' (e :: ω')
inductive Tak : Ws → Addr → Co → Ws → Prop
  | z {ω l C} : Tak ((l, C) :: ω) l C ω
  | s {ω e l C ω'} : Tak ω l C ω' → Tak (e :: ω) l C (e :: ω')
section
variable {F B H B' H' : Hp} {ω ω' : Ws} {l p : Addr} {C C' : Co} {o : HO}
theorem mem_addr {l : Addr} {C : Co} {ω : Ws} (h : (l, C) ∈ ω) : l ∈ ω.map (·.1) := List.mem_map.mpr ⟨_, h, rfl⟩
theorem Own.free (O : Own F ω B H) (h : l ∈ ω.map (·.1)) : B l = none := by
  obtain ⟨⟨l', C⟩, h1, rfl⟩ := List.mem_map.mp h
  exact (O.ow _ _ h1).1
theorem Own.ex (O : Own F ω B H) : Ex B H := fun a o e => by
  by_cases h : a ∈ ω.map (·.1)
  · rw [O.free h] at e; cases e
  · rw [(O.fr a h).2, e]; rfl
theorem Own.none_of (O : Own F ω B H) (h : H p = none) : B p = none ∧ F p = none ∧ p ∉ ω.map (·.1) := by
  have hp : p ∉ ω.map (·.1) := fun hm => by
    obtain ⟨⟨l', C⟩, h1, e⟩ := List.mem_map.mp hm
    obtain ⟨_, _, o, h2, _⟩ := O.ow _ _ h1
    have e : l' = p := e
    rw [e, h] at h2; cases h2
  have q := (O.fr p hp).2
  rw [h] at q
  cases hb : B p with
  | some o => rw [hb] at q; cases q
  | none =>
    refine ⟨rfl, ?_, hp⟩
    rw [hb] at q
    exact q.symm
/-- a new thing that is never changed -/
theorem Own.new (O : Own F ω B H) (h : H p = none) : Own F ω (upd B p o) (upd H p o) ∧ Ex B (upd B p o) := by
  obtain ⟨h1, h2, h3⟩ := O.none_of h
  have e : Ex B (upd B p o) := Ex.new h1
  refine ⟨⟨O.nd, fun l C hm => ?_, fun a ha => ?_⟩, e⟩
  · obtain ⟨q1, q2, o', q3, q4⟩ := O.ow l C hm
    have hne : l ≠ p := fun z => h3 (z ▸ mem_addr hm)
    exact ⟨by rw [upd_ne hne]; exact q1, q2, o', by rw [upd_ne hne]; exact q3, C.mono e q4⟩
  · by_cases z : a = p
    · subst z
      exact ⟨.inr h2, by rw [upd_same, upd_same]; rfl⟩
    · rw [upd_ne z, upd_ne z]; exact O.fr a ha
/-- a new thing that is owned -/
theorem Own.add (O : Own F ω B H) (h : H p = none) (c : C.p B o) : Own F (ω ++ [(p, C)]) B (upd H p o) := by
  obtain ⟨h1, h2, h3⟩ := O.none_of h
  refine ⟨?_, fun l C' hm => ?_, fun a ha => ?_⟩
  · rw [List.map_append, List.nodup_append]
    refine ⟨O.nd, by simp, fun a ha b hb => ?_⟩
    have e : b = p := by simpa using hb
    rw [e]
    exact fun z => h3 (z ▸ ha)
  · rcases List.mem_append.mp hm with hm | hm
    · obtain ⟨q1, q2, o', q3, q4⟩ := O.ow l C' hm
      have hne : l ≠ p := fun z => h3 (z ▸ mem_addr hm)
      exact ⟨q1, q2, o', by rw [upd_ne hne]; exact q3, q4⟩
    · have e : (l, C') = (p, C) := by simpa using hm
      cases e
      exact ⟨h1, h2, o, upd_same, c⟩
  · have e : a ∉ ω.map (·.1) ∧ a ≠ p := by
      constructor
      · exact fun z => ha (by rw [List.map_append]; exact List.mem_append_left _ z)
      · rintro rfl; exact ha (by simp)
    rw [upd_ne e.2]
    exact O.fr a e.1
theorem Own.cons (O : Own F ω B H) (h : H p = none) (c : C.p B o) : Own F ((p, C) :: ω) B (upd H p o) := by
  have q := O.add h c
  refine ⟨?_, fun l C' hm => q.ow l C' ?_, fun a ha => q.fr a ?_⟩
  · obtain ⟨_, _, h3⟩ := O.none_of h
    exact List.nodup_cons.mpr ⟨h3, O.nd⟩
  · rcases List.mem_cons.mp hm with z | z
    · exact List.mem_append_right _ (by simp [z])
    · exact List.mem_append_left _ z
  · intro z
    apply ha
    rw [List.map_append] at z
    rcases List.mem_append.mp z with z | z
    · exact List.mem_cons_of_mem _ z
    · have : a = p := by simpa using z
      rw [this]; exact List.mem_cons_self
theorem Swp.mem : ∀ {ω ω' : Ws} {l : Addr} {C C' : Co}, Swp ω l C C' ω' → (l, C) ∈ ω
  | _, _, _, _, _, .z => List.mem_cons_self
  | _, _, _, _, _, .s h => List.mem_cons_of_mem _ h.mem
theorem Swp.addrs : ∀ {ω ω' : Ws} {l : Addr} {C C' : Co}, Swp ω l C C' ω' → ω'.map (·.1) = ω.map (·.1)
  | _, _, _, _, _, .z => rfl
  | _, _, _, _, _, .s h => by simp [h.addrs]
theorem Swp.mem' : ∀ {ω ω' : Ws} {l m : Addr} {C C' D : Co}, Swp ω l C C' ω' → (m, D) ∈ ω' → (m, D) = (l, C') ∨ (m, D) ∈ ω
  | _, _, _, _, _, _, _, .z, h => (List.mem_cons.mp h).elim .inl fun z => .inr (List.mem_cons_of_mem _ z)
  | _, _, _, _, _, _, _, .s q, h => (List.mem_cons.mp h).elim (fun z => .inr (by rw [z]; exact List.mem_cons_self)) fun z => (q.mem' z).elim .inl fun z => .inr (List.mem_cons_of_mem _ z)
theorem nodup_addr : ∀ {ω : Ws}, (ω.map (·.1)).Nodup → ∀ {l : Addr} {C D : Co}, (l, C) ∈ ω → (l, D) ∈ ω → C = D
  | [], _, _, _, _, h, _ => by cases h
  | e :: ω, nd, l, C, D, h1, h2 => by
    rw [List.map_cons, List.nodup_cons] at nd
    rcases List.mem_cons.mp h1 with z1 | z1
    · subst z1
      rcases List.mem_cons.mp h2 with z2 | z2
      · cases z2; rfl
      · exact absurd (mem_addr z2) nd.1
    · rcases List.mem_cons.mp h2 with z2 | z2
      · subst z2
        exact absurd (mem_addr z1) nd.1
      · exact nodup_addr nd.2 z1 z2
/-- an owned thing is written -/
theorem Own.swp (O : Own F ω B H) (s : Swp ω l C C' ω') (c : C'.p B o) : Own F ω' B (upd H l o) := by
  have hl := O.ow l C s.mem
  refine ⟨by rw [s.addrs]; exact O.nd, fun m D hm => ?_, fun a ha => ?_⟩
  · by_cases z : m = l
    · subst z
      rcases s.mem' hm with e | e
      · cases e
        exact ⟨hl.1, hl.2.1, o, upd_same, c⟩
      · -- the same address: it is the swapped one
        have e1 : (m, C') ∈ ω' := by
          clear hl hm e c O
          induction s with
          | z => exact List.mem_cons_self
          | s _ ih => exact List.mem_cons_of_mem _ ih
        have e2 := nodup_addr (by rw [s.addrs]; exact O.nd) hm e1
        subst e2
        exact ⟨hl.1, hl.2.1, o, upd_same, c⟩
    · rcases s.mem' hm with e | e
      · cases e; exact absurd rfl z
      · rw [upd_ne z]; exact O.ow m D e
  · rw [s.addrs] at ha
    have z : a ≠ l := fun z => ha (z ▸ mem_addr s.mem)
    rw [upd_ne z]
    exact O.fr a ha
theorem Tak.mem : ∀ {ω ω' : Ws} {l : Addr} {C : Co}, Tak ω l C ω' → (l, C) ∈ ω
  | _, _, _, _, .z => List.mem_cons_self
  | _, _, _, _, .s h => List.mem_cons_of_mem _ h.mem
theorem Tak.sub : ∀ {ω ω' : Ws} {l : Addr} {C : Co} {e : Addr × Co}, Tak ω l C ω' → e ∈ ω' → e ∈ ω
  | _, _, _, _, _, .z, h => List.mem_cons_of_mem _ h
  | _, _, _, _, _, .s q, h => (List.mem_cons.mp h).elim (fun z => by rw [z]; exact List.mem_cons_self) fun z => List.mem_cons_of_mem _ (q.sub z)
theorem Tak.cov : ∀ {ω ω' : Ws} {l a : Addr} {C : Co}, Tak ω l C ω' → a ∈ ω.map (·.1) → a = l ∨ a ∈ ω'.map (·.1)
  | _, _, _, _, _, .z, h => by
    rcases List.mem_cons.mp h with z | z
    · exact .inl z
    · exact .inr z
  | _, _, _, _, _, .s q, h => by
    rcases List.mem_cons.mp h with z | z
    · exact .inr (by rw [z]; exact List.mem_cons_self)
    · exact (q.cov z).elim .inl fun z => .inr (List.mem_cons_of_mem _ z)
theorem Tak.sublist : ∀ {ω ω' : Ws} {l : Addr} {C : Co}, Tak ω l C ω' → (ω'.map (·.1)).Sublist (ω.map (·.1))
  | _, _, _, _, .z => List.Sublist.cons _ (List.Sublist.refl _)
  | _, _, _, _, .s h => by
    rw [List.map_cons, List.map_cons]
    exact List.Sublist.cons_cons _ h.sublist
theorem Tak.not : ∀ {ω ω' : Ws} {l : Addr} {C : Co}, Tak ω l C ω' → (ω.map (·.1)).Nodup → l ∉ ω'.map (·.1)
  | _, _, _, _, .z, nd => (List.nodup_cons.mp nd).1
  | _, _, _, _, .s h, nd => by
    rw [List.map_cons, List.nodup_cons] at nd
    rw [List.map_cons]
    intro z
    rcases List.mem_cons.mp z with z | z
    · exact nd.1 (by rw [← z]; exact mem_addr h.mem)
    · exact h.not nd.2 z
/-- an owned thing is frozen -/
theorem Own.freeze (O : Own F ω B H) (t : Tak ω l C ω') : ∃ o, H l = some o ∧ C.p B o ∧ Own F ω' (upd B l o) H ∧ Ex B (upd B l o) := by
  obtain ⟨h1, h2, o, h3, h4⟩ := O.ow l C t.mem
  have e : Ex B (upd B l o) := Ex.new h1
  refine ⟨o, h3, h4, ⟨O.nd.sublist t.sublist, fun m D hm => ?_, fun a ha => ?_⟩, e⟩
  · obtain ⟨q1, q2, o', q3, q4⟩ := O.ow m D (t.sub hm)
    have z : m ≠ l := fun z => t.not O.nd (z ▸ mem_addr hm)
    exact ⟨by rw [upd_ne z]; exact q1, q2, o', q3, D.mono e q4⟩
  · by_cases z : a = l
    · subst z
      exact ⟨.inr h2, by rw [upd_same, h3]; rfl⟩
    · rw [upd_ne z]
      exact O.fr a fun q => (t.cov q).elim z ha
/-- all owned things behind ω are frozen -/
theorem Own.drop : ∀ {ω2 : Ws} {B : Hp}, Own F (ω ++ ω2) B H → ∃ B', Ex B B' ∧ Own F ω B' H
  | [], B, O => ⟨B, Ex.refl B, by rw [List.append_nil] at O; exact O⟩
  | (l, C) :: ω2, B, O => by
    have t : ∀ ω : Ws, Tak (ω ++ (l, C) :: ω2) l C (ω ++ ω2) := fun ω => by
      induction ω with
      | nil => exact .z
      | cons e ω ih => exact .s ih
    obtain ⟨o, _, _, O', e⟩ := O.freeze (t ω)
    obtain ⟨B', e', O''⟩ := Own.drop (ω2 := ω2) O'
    exact ⟨B', e.trans e', O''⟩
/-- what is owned beside, as a frame -/
def frame (F : Hp) (ω2 : Ws) (H : Hp) : Hp := fun a => if a ∈ ω2.map (·.1) then H a else F a
theorem Own.focus {ω2 : Ws} (O : Own F (ω ++ ω2) B H) : Own (frame F ω2 H) ω B H := by
  have nd := O.nd
  rw [List.map_append, List.nodup_append] at nd
  refine ⟨nd.1, fun l C hm => ?_, fun a ha => ?_⟩
  · obtain ⟨h1, h2, h3⟩ := O.ow l C (List.mem_append_left _ hm)
    refine ⟨h1, ?_, h3⟩
    unfold frame
    rw [if_neg (fun z => nd.2.2 l (mem_addr hm) l z rfl)]
    exact h2
  · unfold frame
    by_cases z : a ∈ ω2.map (·.1)
    · rw [if_pos z]
      obtain ⟨⟨l, C⟩, hm, rfl⟩ := List.mem_map.mp z
      obtain ⟨h1, _, _⟩ := O.ow l C (List.mem_append_right _ hm)
      exact ⟨.inl h1, by rw [h1]; rfl⟩
    · rw [if_neg z]
      exact O.fr a (by rw [List.map_append]; exact fun q => (List.mem_append.mp q).elim ha z)
theorem Own.unfocus {ω2 : Ws} (O : Own F (ω ++ ω2) B H) (e : Ex B B') (O' : Own (frame F ω2 H) ω' B' H') (hd : ω'.map (·.1) = ω.map (·.1)) : Own F (ω' ++ ω2) B' H' := by
  have nd := O.nd
  have hnd : ((ω' ++ ω2).map (·.1)).Nodup := by
    rw [List.map_append, hd, ← List.map_append]; exact nd
  rw [List.map_append, List.nodup_append] at nd
  have inω2 : ∀ l C, (l, C) ∈ ω2 → B' l = none ∧ H' l = H l := fun l C hm => by
    have hl : l ∉ ω'.map (·.1) := by rw [hd]; exact fun z => nd.2.2 l z l (mem_addr hm) rfl
    obtain ⟨q1, q2⟩ := O'.fr l hl
    have hf : frame F ω2 H l = H l := by unfold frame; rw [if_pos (mem_addr hm)]
    obtain ⟨_, _, o, h3, _⟩ := O.ow l C (List.mem_append_right _ hm)
    rw [hf] at q1 q2
    have hb : B' l = none := by
      rcases q1 with z | z
      · exact z
      · rw [h3] at z; cases z
    rw [hb] at q2
    exact ⟨hb, q2⟩
  refine ⟨hnd, fun l C hm => ?_, fun a ha => ?_⟩
  · rcases List.mem_append.mp hm with hm | hm
    · obtain ⟨h1, h2, h3⟩ := O'.ow l C hm
      refine ⟨h1, ?_, h3⟩
      have hl : l ∉ ω2.map (·.1) := fun z => nd.2.2 l (by rw [← hd]; exact mem_addr hm) l z rfl
      unfold frame at h2
      rw [if_neg hl] at h2
      exact h2
    · obtain ⟨_, h2, o, h3, h4⟩ := O.ow l C (List.mem_append_right _ hm)
      obtain ⟨q1, q2⟩ := inω2 l C hm
      exact ⟨q1, h2, o, by rw [q2]; exact h3, C.mono e h4⟩
  · rw [List.map_append] at ha
    have h1 : a ∉ ω'.map (·.1) := fun z => ha (List.mem_append_left _ z)
    have h2 : a ∉ ω2.map (·.1) := fun z => ha (List.mem_append_right _ z)
    have q := O'.fr a h1
    unfold frame at q
    rw [if_neg h2] at q
    exact q
end
end ZZ

set_option maxHeartbeats 2000000
/-! Z2: judgements over the text itself. -/
namespace ZZ
open PySem PySem.Spec PyProof.Rows L2
open Evl (Ex)

/-! ### the weakest readings -/
def tW (X : Cx) (e : Expr) : TE := fun σ H Q => ∀ pins s, Inv X pins σ H s → wpAny (model X.prog X.w) X.A (eval e X.env) (EP X pins σ Q) X.xe s
def tT (X : Cx) (e : Expr) : TT := fun σ H Q => ∀ pins s, Inv X pins σ H s → wpAny (model X.prog X.w) X.A (isTrue e X.env (eval e X.env)) (TP X pins σ Q) X.xe s
def tV (X : Cx) (e : Expr) : TT := fun σ H Q => ∀ whole pins s, Inv X pins σ H s → wpAny (model X.prog X.w) X.A (isTrue e X.env whole) (TP X pins σ Q) X.xe s
def tA (X : Cx) (es : List Expr) : TA := fun σ H Q => ∀ pos pins s, Inv X pins σ H s → wpAny (model X.prog X.w) X.A (spliced (backTo pos (starEach es X.env))) (AP X pins σ Q) X.xe s
def tS (X : Cx) (sts : List Stmt) : TS := fun D σ H => ∀ pins s, Inv X pins σ H s → wpAny (model X.prog X.w) X.A (execs sts X.env) (SP X pins D) X.xe s
section
variable {X : Cx} {e : Expr} {es : List Expr} {sts rest : List Stmt} {st : Stmt} {t : TE} {tt : TT} {ta : TA} {ts : TS} {σ : L2.St} {H : Hp} {D : Ends}
theorem pe_w : PE X e (tW X e) := ⟨fun pins s _ _ _ I h => h pins s I⟩
theorem pt_w : PT X e (tT X e) := ⟨fun pins s _ _ _ I h => h pins s I⟩
theorem pv_w : PW X e (tV X e) := ⟨fun wh pins s _ _ _ I h => h wh pins s I⟩
theorem pa_w : PA X es (tA X es) := ⟨fun pos pins s _ _ _ I h => h pos pins s I⟩
theorem pss_w : PSs X sts (tS X sts) := ⟨fun pins s _ _ _ I h => h pins s I⟩
theorem tW.of {Q : VK} (h : PE X e t) (q : t σ H Q) : tW X e σ H Q := fun pins s I => h.run pins s σ H Q I q
theorem tT.of {Q : Bool → Hp → Prop} (h : PT X e tt) (q : tt σ H Q) : tT X e σ H Q := fun pins s I => h.run pins s σ H Q I q
theorem tV.of {Q : Bool → Hp → Prop} (h : PW X e tt) (q : tt σ H Q) : tV X e σ H Q := fun wh pins s I => h.run wh pins s σ H Q I q
theorem tA.of {Q : List V → Hp → Prop} (h : PA X es ta) (q : ta σ H Q) : tA X es σ H Q := fun pos pins s I => h.run pos pins s σ H Q I q
theorem tS.of (h : PSs X sts ts) (q : ts D σ H) : tS X sts D σ H := fun pins s I => h.run pins s σ H D I q
/-- a statement, then the rest -/
theorem tS.cons (h : PS X st ts) (q : ts { D with nx := tS X rest D } σ H) : tS X (st :: rest) D σ H := tS.of (pss_cons h pss_w) q
end

/-! ### where a body stands -/
structure Mo where
  P : Program
  w : World
  K : PySem.W.Frag
  mg : Str → Option Value
  base : Heap
structure Cc where
  M : Mo
  sc : Scope
  k : Nat
  cl : Bool := true
  hot : Bool := false
structure Fits (c : Cc) (N : List Str) (X : Cx) : Prop where
  prog : X.prog = c.M.P
  w : X.w = c.M.w
  K : X.K = c.M.K
  mg : X.mg = c.M.mg
  base : X.base = c.M.base
  sc : X.env.scope = c.sc
  ns : X.N = N
  nd : N.Nodup
  calm0 : c.hot = false → X.calm = true
  room0 : c.hot = false → Room c.k X.A
  roomH : L2H.RoomH c.k X.A
  hotc : c.hot = true → L2H.HotC X
  cell : c.cl = true → ∀ x, c.sc.names.lookup x = some .cell → X.fn x = true
  pass : PassesOwn (model X.prog X.w) X.A X.env X.xe
/-- no exception is being handled -/
class Cold (c : Cc) : Prop where
  out : c.hot = false
instance {M : Mo} {sc : Scope} {k : Nat} {cl : Bool} : Cold ⟨M, sc, k, cl, false⟩ := ⟨rfl⟩

theorem Fits.calm {c : Cc} [h : Cold c] {N : List Str} {X : Cx} (fx : Fits c N X) : X.calm = true := fx.calm0 h.out
theorem Fits.room {c : Cc} [h : Cold c] {N : List Str} {X : Cx} (fx : Fits c N X) : Room c.k X.A := fx.room0 h.out

/-! ### the judgements -/
def DE (c : Cc) (Γ : En) (ω : Ws) (e : Expr) (S : Sh) (ω' : Ws) : Prop :=
  ∀ X, Fits c (Γ.map (·.1)) X → ∀ F σ B H, EnvOk Γ σ B → Own F ω B H → ∀ Q : VK, (∀ v B' H', Ex B B' → Own F ω' B' H' → S.p B' v → Q v H') → tW X e σ H Q
def DT (c : Cc) (Γ : En) (ω : Ws) (e : Expr) (R : Bool → Prop) (ω' : Ws) : Prop :=
  ∀ X, Fits c (Γ.map (·.1)) X → ∀ F σ B H, EnvOk Γ σ B → Own F ω B H → ∀ Q : Bool → Hp → Prop, (∀ b B' H', Ex B B' → Own F ω' B' H' → R b → Q b H') → tT X e σ H Q
def DV (c : Cc) (Γ : En) (ω : Ws) (e : Expr) (R : Bool → Prop) (ω' : Ws) : Prop :=
  ∀ X, Fits c (Γ.map (·.1)) X → ∀ F σ B H, EnvOk Γ σ B → Own F ω B H → ∀ Q : Bool → Hp → Prop, (∀ b B' H', Ex B B' → Own F ω' B' H' → R b → Q b H') → tV X e σ H Q
def DA (c : Cc) (Γ : En) (ω : Ws) (es : List Expr) (ss : List Sh) (ω' : Ws) : Prop :=
  ∀ X, Fits c (Γ.map (·.1)) X → ∀ F σ B H, EnvOk Γ σ B → Own F ω B H → ∀ Q : List V → Hp → Prop, (∀ vs B' H', Ex B B' → Own F ω' B' H' → All2 (fun v (s : Sh) => s.p B' v) vs ss → Q vs H') → tA X es σ H Q
def DS (c : Cc) (X : Cx) (B0 F : Hp) (D : Ends) (Γ : En) (ω : Ws) (sts : List Stmt) : Prop :=
  Fits c (Γ.map (·.1)) X → ∀ σ B H, Ex B0 B → EnvOk Γ σ B → Own F ω B H → tS X sts D σ H
/-- an operation of two values, one value, a list of values, by shapes -/
def RR (r : R2) (SA SB S : Sh) : Prop := ∀ F ω B H v u, SA.p B v → SB.p B u → Own F ω B H → ∀ Q : VK, (∀ z B' H', Ex B B' → Own F ω B' H' → S.p B' z → Q z H') → r v u H Q
def RU (r : V → Hp → VK → Prop) (SA S : Sh) : Prop := ∀ F ω B H v, SA.p B v → Own F ω B H → ∀ Q : VK, (∀ z B' H', Ex B B' → Own F ω B' H' → S.p B' z → Q z H') → r v H Q
def RC (r : List V → Hp → VK → Prop) (ss : List Sh) (S : Sh) : Prop := ∀ F ω B H vs, All2 (fun v (s : Sh) => s.p B v) vs ss → Own F ω B H → ∀ Q : VK, (∀ z B' H', Ex B B' → Own F ω B' H' → S.p B' z → Q z H') → r vs H Q

section
variable {c : Cc} {Γ : En} {ω ω1 ω2 ω3 : Ws} {a b d e : Expr} {es : List Expr} {S SA SB T : Sh} {R R1 R2 : Bool → Prop} {pos p : Pos} {x : Str}

theorem DE.wide (h : DE c Γ ω e S ω1) (w : Sle S T) : DE c Γ ω e T ω1 := fun X fx F σ B H hE hO Q hQ => h X fx F σ B H hE hO Q fun v B' H' e1 O1 p1 => hQ v B' H' e1 O1 (w _ _ p1)
theorem DT.wide (h : DT c Γ ω e R ω1) (w : ∀ b, R b → R1 b) : DT c Γ ω e R1 ω1 := fun X fx F σ B H hE hO Q hQ => h X fx F σ B H hE hO Q fun v B' H' e1 O1 p1 => hQ v B' H' e1 O1 (w _ p1)

/-! ### names, constants -/
theorem d_name (hh : Has Γ x S) (hv : Vis c.sc x := by first | exact Or.inl rfl | exact Or.inr (Or.inl rfl) | exact Or.inr (Or.inr rfl)) (hd : (x == ("__debug__" : Str)) = false := by decide)
    (hcd : (x == ("__classdict__" : Str)) = false := by decide) : DE c Γ ω (.Name x p) S ω := by
  intro X fx F σ B H hE hO Q hQ
  obtain ⟨i, v, h1, h2, h3⟩ := hh.get hE
  exact tW.of (pe_var (i := i) (by rw [fx.ns]; exact h1) (by rw [fx.sc]; exact hv) hd hcd) ⟨v, h2, hQ v B H (Ex.refl B) hO h3⟩
theorem d_c {v : V} (h : ∀ X, PE X e (tC v)) : DE c Γ ω e (Sc v) ω := fun X fx F σ B H hE hO Q hQ => tW.of (h X) (hQ v B H (Ex.refl B) hO rfl)
theorem d_int {i : Int} {j} : DE c Γ ω (.Constant (.int i) j p) (I i) ω := d_c fun _ => pe_int
theorem d_bool {i : Bool} {j} : DE c Γ ω (.Constant (.bool i) j p) (Bo i) ω := d_c fun _ => pe_bl
theorem d_none {j} : DE c Γ ω (.Constant .none j p) No ω := d_c fun _ => pe_non
theorem d_str {i : Str} {j} : DE c Γ ω (.Constant (.str i) j p) (Tx i) ω := d_c fun _ => pe_str

/-! ### operators -/
theorem d_bin {op : Operator} {r : L2.R2} (ho : ∀ X, OpR X (binaryOp op) r) (ha : DE c Γ ω a SA ω1) (hb : DE c Γ ω1 b SB ω2) (hr : RR r SA SB S) : DE c Γ ω (.BinOp a op b pos) S ω2 := by
  intro X fx F σ B H hE hO Q hQ
  refine tW.of (pe_op (ho X) pe_w pe_w) ?_
  refine ha X fx F σ B H hE hO _ fun v B1 H1 e1 O1 p1 => ?_
  refine hb X fx F σ B1 H1 (hE.mono e1) O1 _ fun u B2 H2 e2 O2 p2 => ?_
  exact hr F ω2 B2 H2 v u (SA.mono e2 p1) p2 O2 Q fun z B' H' e3 O3 p3 => hQ z B' H' ((e1.trans e2).trans e3) O3 p3
theorem d_un {op : UnaryOp} {r : V → Hp → VK → Prop} (ho : ∀ X, UnR X (unaryOp op) r) (ha : DE c Γ ω a SA ω1) (hr : RU r SA S) : DE c Γ ω (.UnaryOp op a pos) S ω1 := by
  intro X fx F σ B H hE hO Q hQ
  refine tW.of (pe_un (ho X) pe_w) ?_
  refine ha X fx F σ B H hE hO _ fun v B1 H1 e1 O1 p1 => ?_
  exact hr F ω1 B1 H1 v p1 O1 Q fun z B' H' e3 O3 p3 => hQ z B' H' (e1.trans e3) O3 p3
theorem rr_I0 {g : Int → Int → V} {i j : Int} : RR (rI0 g) (I i) (I j) (Sc (g i j)) := fun F ω B H v u h1 h2 O Q q => ⟨i, j, h1, h2, q _ B H (Ex.refl B) O rfl⟩
theorem rr_I {C : Int → Int → Prop} {g : Int → Int → V} {i j : Int} (hc : C i j) : RR (rI C g) (I i) (I j) (Sc (g i j)) := fun F ω B H v u h1 h2 O Q q => ⟨i, j, h1, h2, hc, q _ B H (Ex.refl B) O rfl⟩
/-- numbers that are known up to a word -/
abbrev Ei (P : Int → Prop) : Sh := Es P I
theorem rr_E0 {g : Int → Int → V} {P Q' : Int → Prop} {α : Type} {W : α → Prop} {R : α → Sh} (h : ∀ i j, P i → Q' j → ∃ x, W x ∧ ∀ B, (R x).p B (g i j)) : RR (rI0 g) (Ei P) (Ei Q') (Es W R) := fun F ω B H v u h1 h2 O Q q => by
  obtain ⟨i, hi, e1⟩ := h1
  obtain ⟨j, hj, e2⟩ := h2
  obtain ⟨x, hx, hR⟩ := h i j hi hj
  exact ⟨i, j, e1, e2, q _ B H (Ex.refl B) O ⟨x, hx, hR B⟩⟩
theorem rr_E {C : Int → Int → Prop} {g : Int → Int → V} {P Q' : Int → Prop} {α : Type} {W : α → Prop} {R : α → Sh} (h : ∀ i j, P i → Q' j → C i j ∧ ∃ x, W x ∧ ∀ B, (R x).p B (g i j)) : RR (rI C g) (Ei P) (Ei Q') (Es W R) := fun F ω B H v u h1 h2 O Q q => by
  obtain ⟨i, hi, e1⟩ := h1
  obtain ⟨j, hj, e2⟩ := h2
  obtain ⟨hc, x, hx, hR⟩ := h i j hi hj
  exact ⟨i, j, e1, e2, hc, q _ B H (Ex.refl B) O ⟨x, hx, hR B⟩⟩
theorem d_add {i j : Int} (ha : DE c Γ ω a (I i) ω1) (hb : DE c Γ ω1 b (I j) ω2) : DE c Γ ω (.BinOp a .Add b pos) (I (i + j)) ω2 := d_bin (fun _ => op_add) ha hb rr_I0
theorem d_sub {i j : Int} (ha : DE c Γ ω a (I i) ω1) (hb : DE c Γ ω1 b (I j) ω2) : DE c Γ ω (.BinOp a .Sub b pos) (I (i - j)) ω2 := d_bin (fun _ => op_sub) ha hb rr_I0
theorem d_mul {i j : Int} (ha : DE c Γ ω a (I i) ω1) (hb : DE c Γ ω1 b (I j) ω2) (hc : CMul i j) : DE c Γ ω (.BinOp a .Mult b pos) (I (i * j)) ω2 := d_bin (fun _ => op_mul) ha hb (rr_I hc)
theorem d_div {i j : Int} (ha : DE c Γ ω a (I i) ω1) (hb : DE c Γ ω1 b (I j) ω2) (hc : CDiv i j) : DE c Γ ω (.BinOp a .FloorDiv b pos) (I (i / j)) ω2 := d_bin (fun _ => op_fdiv) ha hb (rr_I hc)
theorem d_mod {i j : Int} (ha : DE c Γ ω a (I i) ω1) (hb : DE c Γ ω1 b (I j) ω2) (hc : 0 < j) : DE c Γ ω (.BinOp a .Mod b pos) (I (i % j)) ω2 := d_bin (fun _ => op_mod) ha hb (rr_I hc)
theorem d_neg {i : Int} (ha : DE c Γ ω a (I i) ω1) : DE c Γ ω (.UnaryOp .USub a pos) (I (-i)) ω1 := d_un (fun _ => un_neg) ha fun F ω B H v h1 O Q q => ⟨i, h1, q _ B H (Ex.refl B) O rfl⟩
/-- numbers known up to a word -/
theorem DE.some {i : Int} (h : DE c Γ ω e (I i) ω1) : DE c Γ ω e (Ei (· = i)) ω1 := h.wide fun _ _ q => ⟨i, rfl, q⟩

/-! ### comparisons -/
theorem d_cmp {op : CmpOp} {r : L2.R2} (ho : ∀ X, Fits c (Γ.map (·.1)) X → OpR X (compareOp op) r) (ha : DE c Γ ω a SA ω1) (hb : DE c Γ ω1 b SB ω2) (hr : RR r SA SB S) (hm : behindInMarks op b = false) : DE c Γ ω (.Compare a [op] [b] pos) S ω2 := by
  intro X fx F σ B H hE hO Q hQ
  refine tW.of (pe_cmpR (ho X fx) pe_w pe_w hm) ?_
  refine ha X fx F σ B H hE hO _ fun v B1 H1 e1 O1 p1 => ?_
  refine hb X fx F σ B1 H1 (hE.mono e1) O1 _ fun u B2 H2 e2 O2 p2 => ?_
  exact hr F ω2 B2 H2 v u (SA.mono e2 p1) p2 O2 Q fun z B' H' e3 O3 p3 => hQ z B' H' ((e1.trans e2).trans e3) O3 p3
theorem t_cmp {op : CmpOp} {r : L2.R2} (ho : ∀ X, Fits c (Γ.map (·.1)) X → OpR X (compareOp op) r) (ha : DE c Γ ω a SA ω1) (hb : DE c Γ ω1 b SB ω2) (hr : RR r SA SB (Es R Bo)) (hm : behindInMarks op b = false) : DT c Γ ω (.Compare a [op] [b] pos) R ω2 := by
  intro X fx F σ B H hE hO Q hQ
  refine tT.of (pt_cmpR (ho X fx) pe_w pe_w hm) ?_
  refine ha X fx F σ B H hE hO _ fun v B1 H1 e1 O1 p1 => ?_
  refine hb X fx F σ B1 H1 (hE.mono e1) O1 _ fun u B2 H2 e2 O2 p2 => ?_
  refine hr F ω2 B2 H2 v u (SA.mono e2 p1) p2 O2 _ fun z B' H' e3 O3 p3 => ?_
  obtain ⟨k, hk, e⟩ := p3
  exact ⟨k, e, hQ k B' H' ((e1.trans e2).trans e3) O3 hk⟩
theorem Sle.tb {k : Bool} : Sle (Bo k) (Es (· = k) Bo) := fun _ _ q => ⟨k, rfl, q⟩
theorem RR.wide {r : L2.R2} (h : RR r SA SB S) (w : Sle S T) : RR r SA SB T := fun F ω B H v u h1 h2 O Q q => h F ω B H v u h1 h2 O Q fun z B' H' e3 O3 p3 => q z B' H' e3 O3 (w _ _ p3)
theorem rr_eq {v u : V} (hs : scal v u = true) : RR rEq (Sc v) (Sc u) (Bo (decide (v = u))) := fun F ω B H x y h1 h2 O Q q => by
  have h1 : x = v := h1
  have h2 : y = u := h2
  subst h1 h2
  exact ⟨hs, q _ B H (Ex.refl B) O rfl⟩
theorem rr_ne {v u : V} (hs : scal v u = true) : RR rNe (Sc v) (Sc u) (Bo (!decide (v = u))) := fun F ω B H x y h1 h2 O Q q => by
  have h1 : x = v := h1
  have h2 : y = u := h2
  subst h1 h2
  exact ⟨hs, q _ B H (Ex.refl B) O rfl⟩
theorem vint {i j : Int} : decide (V.int i = V.int j) = decide (i = j) := by simp
theorem vstr {i j : Str} : decide (V.str i = V.str j) = decide (i = j) := by simp
section
variable {i j : Int} {s u : Str}
theorem t_lt (ha : DE c Γ ω a (I i) ω1) (hb : DE c Γ ω1 b (I j) ω2) : DT c Γ ω (.Compare a [.Lt] [b] pos) (· = decide (i < j)) ω2 := t_cmp (fun _ _ => op_lt) ha hb (rr_I0.wide Sle.tb) (nomark _)
theorem t_le (ha : DE c Γ ω a (I i) ω1) (hb : DE c Γ ω1 b (I j) ω2) : DT c Γ ω (.Compare a [.LtE] [b] pos) (· = decide (i ≤ j)) ω2 := t_cmp (fun _ _ => op_le) ha hb (rr_I0.wide Sle.tb) (nomark _)
theorem t_gt (ha : DE c Γ ω a (I i) ω1) (hb : DE c Γ ω1 b (I j) ω2) : DT c Γ ω (.Compare a [.Gt] [b] pos) (· = decide (j < i)) ω2 := t_cmp (fun _ _ => op_gt) ha hb (rr_I0.wide Sle.tb) (nomark _)
theorem t_ge (ha : DE c Γ ω a (I i) ω1) (hb : DE c Γ ω1 b (I j) ω2) : DT c Γ ω (.Compare a [.GtE] [b] pos) (· = decide (j ≤ i)) ω2 := t_cmp (fun _ _ => op_ge) ha hb (rr_I0.wide Sle.tb) (nomark _)
theorem t_eqI (ha : DE c Γ ω a (I i) ω1) (hb : DE c Γ ω1 b (I j) ω2) : DT c Γ ω (.Compare a [.Eq] [b] pos) (· = decide (i = j)) ω2 := t_cmp (fun _ _ => op_eq) ha hb ((rr_eq rfl).wide (by rw [vint]; exact Sle.tb)) (nomark _)
theorem t_neI (ha : DE c Γ ω a (I i) ω1) (hb : DE c Γ ω1 b (I j) ω2) : DT c Γ ω (.Compare a [.NotEq] [b] pos) (· = !decide (i = j)) ω2 := t_cmp (fun _ _ => op_ne) ha hb ((rr_ne rfl).wide (by rw [vint]; exact Sle.tb)) (nomark _)
theorem t_eqS (ha : DE c Γ ω a (Tx s) ω1) (hb : DE c Γ ω1 b (Tx u) ω2) : DT c Γ ω (.Compare a [.Eq] [b] pos) (· = decide (s = u)) ω2 := t_cmp (fun _ _ => op_eq) ha hb ((rr_eq rfl).wide (by rw [vstr]; exact Sle.tb)) (nomark _)
theorem t_neS (ha : DE c Γ ω a (Tx s) ω1) (hb : DE c Γ ω1 b (Tx u) ω2) : DT c Γ ω (.Compare a [.NotEq] [b] pos) (· = !decide (s = u)) ω2 := t_cmp (fun _ _ => op_ne) ha hb ((rr_ne rfl).wide (by rw [vstr]; exact Sle.tb)) (nomark _)
theorem d_lt (ha : DE c Γ ω a (I i) ω1) (hb : DE c Γ ω1 b (I j) ω2) : DE c Γ ω (.Compare a [.Lt] [b] pos) (Bo (decide (i < j))) ω2 := d_cmp (fun _ _ => op_lt) ha hb rr_I0 (nomark _)
theorem d_le (ha : DE c Γ ω a (I i) ω1) (hb : DE c Γ ω1 b (I j) ω2) : DE c Γ ω (.Compare a [.LtE] [b] pos) (Bo (decide (i ≤ j))) ω2 := d_cmp (fun _ _ => op_le) ha hb rr_I0 (nomark _)
theorem d_gt (ha : DE c Γ ω a (I i) ω1) (hb : DE c Γ ω1 b (I j) ω2) : DE c Γ ω (.Compare a [.Gt] [b] pos) (Bo (decide (j < i))) ω2 := d_cmp (fun _ _ => op_gt) ha hb rr_I0 (nomark _)
theorem d_ge (ha : DE c Γ ω a (I i) ω1) (hb : DE c Γ ω1 b (I j) ω2) : DE c Γ ω (.Compare a [.GtE] [b] pos) (Bo (decide (j ≤ i))) ω2 := d_cmp (fun _ _ => op_ge) ha hb rr_I0 (nomark _)
theorem d_eqI (ha : DE c Γ ω a (I i) ω1) (hb : DE c Γ ω1 b (I j) ω2) : DE c Γ ω (.Compare a [.Eq] [b] pos) (Bo (decide (i = j))) ω2 := d_cmp (fun _ _ => op_eq) ha hb (by rw [← vint]; exact rr_eq rfl) (nomark _)
theorem d_neI (ha : DE c Γ ω a (I i) ω1) (hb : DE c Γ ω1 b (I j) ω2) : DE c Γ ω (.Compare a [.NotEq] [b] pos) (Bo (!decide (i = j))) ω2 := d_cmp (fun _ _ => op_ne) ha hb (by rw [← vint]; exact rr_ne rfl) (nomark _)
theorem d_eqS (ha : DE c Γ ω a (Tx s) ω1) (hb : DE c Γ ω1 b (Tx u) ω2) : DE c Γ ω (.Compare a [.Eq] [b] pos) (Bo (decide (s = u))) ω2 := d_cmp (fun _ _ => op_eq) ha hb (by rw [← vstr]; exact rr_eq rfl) (nomark _)
end
/-- is None, of any shape that says whether it is -/
def NonB (S : Sh) (k : Bool) : Prop := ∀ B v, S.p B v → decide (v = V.non) = k
theorem nonb_sc {v : V} : NonB (Sc v) (decide (v = .non)) := fun B u h => by
  have h : u = v := h
  rw [h]
theorem nonb_seq {b : Bool} {α : Type} {R : α → Sh} {xs : List α} : NonB (Sq b R xs) false := fun B u h => by
  obtain ⟨a, vs, rfl, _⟩ := h
  rfl
theorem nonb_tup {ss : List Sh} : NonB (U ss) false := fun B u h => by
  obtain ⟨a, vs, rfl, _⟩ := h
  rfl
theorem t_isN {k : Bool} {j p'} (ha : DE c Γ ω a SA ω1) (h : NonB SA k) : DT c Γ ω (.Compare a [.Is] [.Constant .none j p'] pos) (· = k) ω1 :=
  t_cmp (fun _ _ => op_isN) ha d_none (fun F ω B H v u h1 h2 O Q q => ⟨h2, q _ B H (Ex.refl B) O ⟨_, h _ _ h1, rfl⟩⟩) (nomark _)
theorem t_notN {k : Bool} {j p'} (ha : DE c Γ ω a SA ω1) (h : NonB SA k) : DT c Γ ω (.Compare a [.IsNot] [.Constant .none j p'] pos) (· = !k) ω1 :=
  t_cmp (fun _ _ => op_notN) ha d_none (fun F ω B H v u h1 h2 O Q q => ⟨h2, q _ B H (Ex.refl B) O ⟨_, by rw [h _ _ h1], rfl⟩⟩) (nomark _)
theorem d_isN {k : Bool} {j p'} (ha : DE c Γ ω a SA ω1) (h : NonB SA k) : DE c Γ ω (.Compare a [.Is] [.Constant .none j p'] pos) (Bo k) ω1 :=
  d_cmp (fun _ _ => op_isN) ha d_none (fun F ω B H v u h1 h2 O Q q => ⟨h2, q _ B H (Ex.refl B) O (by show V.bl _ = V.bl _; rw [h _ _ h1])⟩) (nomark _)
/-- a <= b <= c of ints -/
theorem t_chain {o o' : CmpOp} {g g' : Int → Int → Bool} {i j l : Int} (h1 : ∀ X, OpR X (compareOp o) (rI0 fun i j => .bl (g i j))) (h2 : ∀ X, OpR X (compareOp o') (rI0 fun i j => .bl (g' i j))) (ha : DE c Γ ω a (I i) ω1) (hb : DE c Γ ω1 b (I j) ω2) (hc : DE c Γ ω2 d (I l) ω2)
    (hm : lastMarks [o, o'] [b, d] = false := by with_unfolding_all rfl) : DT c Γ ω (.Compare a [o, o'] [b, d] pos) (· = (g i j && g' j l)) ω2 := by
  intro X fx F σ B H hE hO Q hQ
  refine tT.of (pt_chain (h1 X) (h2 X) pe_w pe_w pe_w hm) ?_
  refine ha X fx F σ B H hE hO _ fun v B1 H1 e1 O1 p1 => ?_
  refine hb X fx F σ B1 H1 (hE.mono e1) O1 _ fun u B2 H2 e2 O2 p2 => ?_
  refine ⟨i, j, p1, p2, g i j, rfl, ?_⟩
  cases hg : g i j with
  | false =>
    rw [if_neg Bool.false_ne_true]
    exact ⟨false, rfl, hQ false B2 H2 (e1.trans e2) O2 (by rw [hg]; rfl)⟩
  | true =>
    rw [if_pos rfl]
    refine hc X fx F σ B2 H2 (hE.mono (e1.trans e2)) O2 _ fun z B3 H3 e3 O3 p3 => ?_
    exact ⟨j, l, p2, p3, g' j l, rfl, hQ _ B3 H3 ((e1.trans e2).trans e3) O3 (by rw [hg]; rfl)⟩

/-! ### tests -/
theorem t_val {k : Bool} (h : DE c Γ ω e (Bo k) ω1) (he : ∀ env whole, isTrue e env whole = (do let v ← whole; standAt e.pos; holding [v] (truthy v)) := by intro _ _; rfl) : DT c Γ ω e (· = k) ω1 := by
  intro X fx F σ B H hE hO Q hQ
  refine tT.of (pt_val pe_w (he _)) ?_
  exact h X fx F σ B H hE hO _ fun v B1 H1 e1 O1 p1 => ⟨k, p1, hQ k B1 H1 e1 O1 rfl⟩
theorem t_not (h : DT c Γ ω e R ω1) : DT c Γ ω (.UnaryOp .Not e pos) (fun b => R (!b)) ω1 := by
  intro X fx F σ B H hE hO Q hQ
  refine tT.of (pt_not pt_w) ?_
  exact h X fx F σ B H hE hO _ fun v B1 H1 e1 O1 p1 => hQ (!v) B1 H1 e1 O1 (by show R (!!v); rw [Bool.not_not]; exact p1)
theorem t_notD {k : Bool} (h : DT c Γ ω e (· = k) ω1) : DT c Γ ω (.UnaryOp .Not e pos) (· = !k) ω1 := (t_not h).wide fun b q => by
  have q : (!b) = k := q
  rw [← q, Bool.not_not]
theorem t_w (h : DV c Γ ω e R ω1) : DT c Γ ω e R ω1 := by
  intro X fx F σ B H hE hO Q hQ
  exact tT.of (PW.pt pv_w) (h X fx F σ B H hE hO Q hQ)
theorem v_and1 (h : DT c Γ ω a R ω1) : DV c Γ ω (.BoolOp .And [a] pos) R ω1 := fun X fx F σ B H hE hO Q hQ => tV.of (pw_and1 pt_w) (h X fx F σ B H hE hO Q hQ)
theorem v_or1 (h : DT c Γ ω a R ω1) : DV c Γ ω (.BoolOp .Or [a] pos) R ω1 := fun X fx F σ B H hE hO Q hQ => tV.of (pw_or1 pt_w) (h X fx F σ B H hE hO Q hQ)
theorem v_and {k l : Bool} (ha : DT c Γ ω a (· = k) ω) (hb : k = true → DV c Γ ω (.BoolOp .And (b :: es) pos) (· = l) ω) : DV c Γ ω (.BoolOp .And (a :: b :: es) pos) (· = (k && l)) ω := by
  intro X fx F σ B H hE hO Q hQ
  refine tV.of (pw_and pt_w pv_w) ?_
  refine ha X fx F σ B H hE hO _ fun v B1 H1 e1 O1 p1 => ?_
  have p1 : v = k := p1
  subst p1
  cases v with
  | false => exact hQ _ B1 H1 e1 O1 rfl
  | true => exact hb rfl X fx F σ B1 H1 (hE.mono e1) O1 _ fun u B2 H2 e2 O2 p2 => hQ u B2 H2 (e1.trans e2) O2 p2
theorem v_or {k l : Bool} (ha : DT c Γ ω a (· = k) ω) (hb : k = false → DV c Γ ω (.BoolOp .Or (b :: es) pos) (· = l) ω) : DV c Γ ω (.BoolOp .Or (a :: b :: es) pos) (· = (k || l)) ω := by
  intro X fx F σ B H hE hO Q hQ
  refine tV.of (pw_or pt_w pv_w) ?_
  refine ha X fx F σ B H hE hO _ fun v B1 H1 e1 O1 p1 => ?_
  have p1 : v = k := p1
  subst p1
  cases v with
  | true => exact hQ _ B1 H1 e1 O1 rfl
  | false => exact hb rfl X fx F σ B1 H1 (hE.mono e1) O1 _ fun u B2 H2 e2 O2 p2 => hQ u B2 H2 (e1.trans e2) O2 p2
/-- .. where the answer is not known -/
theorem v_andR {R2' : Bool → Prop} (ha : DT c Γ ω a R ω) (hb : R true → DV c Γ ω (.BoolOp .And (b :: es) pos) R2' ω) (hf : R false → R1 false) (ht : ∀ b, R true → R2' b → R1 b) : DV c Γ ω (.BoolOp .And (a :: b :: es) pos) R1 ω := by
  intro X fx F σ B H hE hO Q hQ
  refine tV.of (pw_and pt_w pv_w) ?_
  refine ha X fx F σ B H hE hO _ fun v B1 H1 e1 O1 p1 => ?_
  cases v with
  | false => exact hQ _ B1 H1 e1 O1 (hf p1)
  | true => exact hb p1 X fx F σ B1 H1 (hE.mono e1) O1 _ fun u B2 H2 e2 O2 p2 => hQ u B2 H2 (e1.trans e2) O2 (ht u p1 p2)
theorem v_orR {R2' : Bool → Prop} (ha : DT c Γ ω a R ω) (hb : R false → DV c Γ ω (.BoolOp .Or (b :: es) pos) R2' ω) (hf : R true → R1 true) (ht : ∀ b, R false → R2' b → R1 b) : DV c Γ ω (.BoolOp .Or (a :: b :: es) pos) R1 ω := by
  intro X fx F σ B H hE hO Q hQ
  refine tV.of (pw_or pt_w pv_w) ?_
  refine ha X fx F σ B H hE hO _ fun v B1 H1 e1 O1 p1 => ?_
  cases v with
  | true => exact hQ _ B1 H1 e1 O1 (hf p1)
  | false => exact hb p1 X fx F σ B1 H1 (hE.mono e1) O1 _ fun u B2 H2 e2 O2 p2 => hQ u B2 H2 (e1.trans e2) O2 (ht u p1 p2)
/-! ### and, or, not as values of truth -/
theorem d_one {op : BoolOp} (h : DE c Γ ω a S ω1) : DE c Γ ω (.BoolOp op [a] pos) S ω1 := fun X fx F σ B H hE hO Q hQ => tW.of (pe_one pe_w) (h X fx F σ B H hE hO Q hQ)
theorem d_and {k l : Bool} (ha : DE c Γ ω a (Bo k) ω) (hb : k = true → DE c Γ ω (.BoolOp .And (b :: es) pos) (Bo l) ω) : DE c Γ ω (.BoolOp .And (a :: b :: es) pos) (Bo (k && l)) ω := by
  intro X fx F σ B H hE hO Q hQ
  refine tW.of (pe_and pe_w pe_w) ?_
  refine ha X fx F σ B H hE hO _ fun v B1 H1 e1 O1 p1 => ⟨k, p1, ?_⟩
  cases k with
  | false => exact hQ _ B1 H1 e1 O1 rfl
  | true => exact hb rfl X fx F σ B1 H1 (hE.mono e1) O1 _ fun u B2 H2 e2 O2 p2 => hQ u B2 H2 (e1.trans e2) O2 p2
theorem d_or {k l : Bool} (ha : DE c Γ ω a (Bo k) ω) (hb : k = false → DE c Γ ω (.BoolOp .Or (b :: es) pos) (Bo l) ω) : DE c Γ ω (.BoolOp .Or (a :: b :: es) pos) (Bo (k || l)) ω := by
  intro X fx F σ B H hE hO Q hQ
  refine tW.of (pe_or pe_w pe_w) ?_
  refine ha X fx F σ B H hE hO _ fun v B1 H1 e1 O1 p1 => ⟨k, p1, ?_⟩
  cases k with
  | true => exact hQ _ B1 H1 e1 O1 rfl
  | false => exact hb rfl X fx F σ B1 H1 (hE.mono e1) O1 _ fun u B2 H2 e2 O2 p2 => hQ u B2 H2 (e1.trans e2) O2 p2
theorem d_not {k : Bool} (ha : DE c Γ ω a (Bo k) ω1) : DE c Γ ω (.UnaryOp .Not a pos) (Bo (!k)) ω1 := by
  intro X fx F σ B H hE hO Q hQ
  refine tW.of (pe_not pe_w) ?_
  exact ha X fx F σ B H hE hO _ fun v B1 H1 e1 O1 p1 => ⟨k, p1, hQ _ B1 H1 e1 O1 rfl⟩
theorem d_if {k : Bool} (ht : DT c Γ ω d (· = k) ω1) (ha : k = true → DE c Γ ω1 a S ω2) (hb : k = false → DE c Γ ω1 b S ω2) : DE c Γ ω (.IfExp d a b pos) S ω2 := by
  intro X fx F σ B H hE hO Q hQ
  refine tW.of (pe_ifExp pt_w pe_w pe_w) ?_
  refine ht X fx F σ B H hE hO _ fun v B1 H1 e1 O1 p1 => ?_
  have p1 : v = k := p1
  subst p1
  cases v with
  | true => exact ha rfl X fx F σ B1 H1 (hE.mono e1) O1 _ fun u B2 H2 e2 O2 p2 => hQ u B2 H2 (e1.trans e2) O2 p2
  | false => exact hb rfl X fx F σ B1 H1 (hE.mono e1) O1 _ fun u B2 H2 e2 O2 p2 => hQ u B2 H2 (e1.trans e2) O2 p2

/-! ### arguments, displays -/
theorem a_nil : DA c Γ ω [] [] ω := fun X fx F σ B H hE hO Q hQ => tA.of pa_nil (hQ [] B H (Ex.refl B) hO .nil)
theorem a_cons {ss : List Sh} (ha : DE c Γ ω e S ω1) (hr : DA c Γ ω1 es ss ω2) (hs : ∀ env, starEach (e :: es) env = (false, eval e env) :: starEach es env := by intro _; rfl) : DA c Γ ω (e :: es) (S :: ss) ω2 := by
  intro X fx F σ B H hE hO Q hQ
  refine tA.of (pa_cons pe_w pa_w (hs _)) ?_
  refine ha X fx F σ B H hE hO _ fun v B1 H1 e1 O1 p1 => ?_
  exact hr X fx F σ B1 H1 (hE.mono e1) O1 _ fun vs B2 H2 e2 O2 p2 => hQ _ B2 H2 (e1.trans e2) O2 (.cons (S.mono e2 p1) p2)
theorem d_tup {ss : List Sh} {x1} (h : DA c Γ ω es ss ω1) (hl : ss.length ≤ sizeLine := by show _ ≤ 16777216; simp) : DE c Γ ω (.Tuple es x1 pos) (U ss) ω1 := by
  intro X fx F σ B H hE hO Q hQ
  refine tW.of (pe_tup pa_w) ?_
  refine h X fx F σ B H hE hO _ fun vs B1 H1 e1 O1 p1 => ⟨by rw [p1.len]; exact hl, fun p hp => ?_⟩
  obtain ⟨O2, e2⟩ := O1.new (o := .tup vs) hp
  exact hQ _ _ _ (e1.trans e2) O2 ⟨p, vs, rfl, upd_same, p1.mp fun _ s q => s.mono e2 q⟩
/-- a new list of one kind -/
theorem d_lst {α : Type} {R : α → Sh} {xs : List α} (h : DA c Γ ω es (xs.map R) ω1) (hl : xs.length ≤ sizeLine := by show _ ≤ 16777216; simp) : DE c Γ ω (.List es pos) (L R xs) ω1 := by
  intro X fx F σ B H hE hO Q hQ
  refine tW.of (pe_lst pa_w) ?_
  refine h X fx F σ B H hE hO _ fun vs B1 H1 e1 O1 p1 => ⟨by rw [p1.len, List.length_map]; exact hl, fun p hp => ?_⟩
  obtain ⟨O2, e2⟩ := O1.new (o := .lst vs) hp
  exact hQ _ _ _ (e1.trans e2) O2 ⟨p, vs, rfl, upd_same, (All2.of_map p1).mp fun _ s q => (R s).mono e2 q⟩
end
end ZZ

set_option maxHeartbeats 2000000
/-! Z3: subscripts, slices, built-ins, calls of defs. -/
namespace ZZ
open PySem PySem.Spec PyProof.Rows L2
open Evl (Ex)
def Glo (sc : Scope) (x : Str) : Prop := sc.names.lookup x = some .globalImplicit
def rTupS (K : PySem.W.Frag) : List V → Hp → VK → Prop := fun xs H Q => ∃ p ys, xs = [.ref p] ∧ ((SqL K H p ys ∧ ∀ l, H l = none → Q (.ref l) (upd H l (.tup ys))) ∨ (SqT K H p ys ∧ Q (.ref p) H))

/-! ### places -/
theorem All2.atI {α β : Type} {R : α → β → Prop} {l : List α} {m : List β} {k : Int} {x : β} (h : All2 R l m) (e : L2.atI m k = some x) : ∃ v, L2.atI l k = some v ∧ R v x := by
  unfold L2.atI at e ⊢
  rw [h.len]
  cases q : ixN m.length k with
  | none => rw [q] at e; cases e
  | some j =>
    rw [q] at e
    exact h.get e
/-- xs[lo:hi] -/
def cut {α : Type} (xs : List α) (lo hi : Option Int) : List α := (xs.drop (HT.sIx xs.length 0 lo)).take (HT.sIx xs.length xs.length hi - HT.sIx xs.length 0 lo)
theorem All2.cut {β : Type} {R : V → β → Prop} {l : List V} {m : List β} (h : All2 R l m) (lo hi : Option Int) : All2 R (cutV l lo hi) (cut m lo hi) := by
  unfold cutV ZZ.cut
  rw [h.len]
  exact (h.drop _).take _
theorem cut_take {α : Type} {xs : List α} {k : Nat} : cut xs none (some (k : Int)) = xs.take k := by
  unfold cut
  rw [HT.sIx_none, HT.sIx_nat, Nat.sub_zero, List.drop_zero]
  by_cases h : k ≤ xs.length
  · rw [Nat.min_eq_left h]
  · rw [Nat.min_eq_right (by omega), List.take_of_length_le (Nat.le_refl _), List.take_of_length_le (by omega)]
theorem cut_drop {α : Type} {xs : List α} {k : Nat} : cut xs (some (k : Int)) none = xs.drop k := by
  unfold cut
  rw [HT.sIx_none, HT.sIx_nat]
  by_cases h : k ≤ xs.length
  · rw [Nat.min_eq_left h]
    exact List.take_of_length_le (by rw [List.length_drop]; exact Nat.le_refl _)
  · rw [Nat.min_eq_right (by omega), List.drop_of_length_le (Nat.le_refl _), List.drop_of_length_le (by omega), List.take_nil]
theorem cut_both {α : Type} {xs : List α} {j k : Nat} (h : j ≤ k) : cut xs (some (j : Int)) (some (k : Int)) = (xs.take k).drop j := by
  unfold cut
  rw [HT.sIx_nat, HT.sIx_nat, List.drop_take]
  by_cases h1 : k ≤ xs.length
  · rw [Nat.min_eq_left h1, Nat.min_eq_left (by omega)]
  · by_cases h2 : j ≤ xs.length
    · rw [Nat.min_eq_left h2, Nat.min_eq_right (by omega), List.take_of_length_le (by rw [List.length_drop]; omega), List.take_of_length_le (by rw [List.length_drop]; omega)]
    · rw [Nat.min_eq_right (by omega), Nat.min_eq_right (by omega), List.drop_of_length_le (Nat.le_refl _), List.drop_of_length_le (by omega), List.take_nil, List.take_nil]

inductive Hold : Ws → Addr → Co → Prop
  | z {ω l C} : Hold ((l, C) :: ω) l C
  | s {ω e l C} : Hold ω l C → Hold (e :: ω) l C
theorem Hold.mem {ω : Ws} {l : Addr} {C : Co} (h : Hold ω l C) : (l, C) ∈ ω := by
  induction h with
  | z => exact List.mem_cons_self
  | s _ ih => exact List.mem_cons_of_mem _ ih

section
variable {c : Cc} {Γ : En} {ω ω1 ω2 ω3 : Ws} {a b d e : Expr} {es : List Expr} {S SA SB T : Sh} {R R1 R2 : Bool → Prop} {pos p p2 : Pos} {x : Str} {α : Type} {Rs : α → Sh} {xs : List α} {bb : Bool} {k : Int} {y : α}

theorem sq_get {B H : Hp} {v : V} (h : (Sq bb Rs xs).p B v) (e : Ex B H) : ∃ a vs, v = .ref a ∧ H a = some (if bb then .lst vs else .tup vs) ∧ All2 (fun v x => (Rs x).p B v) vs xs :=
  let ⟨a, vs, h1, h2, h3⟩ := h; ⟨a, vs, h1, e a _ h2, h3⟩
/-! ### a[i] -/
theorem d_ix (ha : DE c Γ ω a (Sq bb Rs xs) ω1) (hb : DE c Γ ω1 b (I k) ω2) (h : L2.atI xs k = some y) (hs : PlainIx b := by exact fun _ _ => rfl) : DE c Γ ω (.Subscript a b pos) (Rs y) ω2 := by
  intro X fx F σ B H hE hO Q hQ
  have go : ∀ (r : L2.R2), IxR X r → (∀ v u B2 H2, (Sq bb Rs xs).p B2 v → u = V.int k → Ex B2 H2 → (∀ z, (Rs y).p B2 z → Q z H2) → r v u H2 Q) → tW X (.Subscript a b pos) σ H Q := fun r hr hh => by
    refine tW.of (pe_ix hr pe_w pe_w hs) ?_
    refine ha X fx F σ B H hE hO _ fun v B1 H1 e1 O1 p1 => ?_
    refine hb X fx F σ B1 H1 (hE.mono e1) O1 _ fun u B2 H2 e2 O2 p2 => ?_
    exact hh v u B2 H2 ((Sq bb Rs xs).mono e2 p1) p2 O2.ex fun z q => hQ z B2 H2 (e1.trans e2) O2 q
  cases bb with
  | true =>
    refine go _ ix_list fun v u B2 H2 p1 p2 e q => ?_
    obtain ⟨a', vs, rfl, h2, h3⟩ := sq_get p1 e
    obtain ⟨z, e1, e2⟩ := h3.atI h
    exact ⟨a', vs, k, z, rfl, p2, SqL.of h2, e1, q z e2⟩
  | false =>
    refine go _ ix_tup fun v u B2 H2 p1 p2 e q => ?_
    obtain ⟨a', vs, rfl, h2, h3⟩ := sq_get p1 e
    obtain ⟨z, e1, e2⟩ := h3.atI h
    exact ⟨a', vs, k, z, rfl, p2, SqT.of h2, e1, q z e2⟩
theorem d_ixU {ss : List Sh} (ha : DE c Γ ω a (U ss) ω1) (hb : DE c Γ ω1 b (I k) ω2) (h : L2.atI ss k = some S) (hs : PlainIx b := by exact fun _ _ => rfl) : DE c Γ ω (.Subscript a b pos) S ω2 := by
  intro X fx F σ B H hE hO Q hQ
  refine tW.of (pe_ix ix_tup pe_w pe_w hs) ?_
  refine ha X fx F σ B H hE hO _ fun v B1 H1 e1 O1 p1 => ?_
  refine hb X fx F σ B1 H1 (hE.mono e1) O1 _ fun u B2 H2 e2 O2 p2 => ?_
  obtain ⟨a', vs, rfl, h2, h3⟩ := (U ss).mono e2 p1
  obtain ⟨z, q1, q2⟩ := h3.atI h
  exact ⟨a', vs, k, z, rfl, p2, SqT.of (O2.ex _ _ h2), q1, hQ z B2 H2 (e1.trans e2) O2 q2⟩
/-- .. of a list that is owned -/
theorem d_ixO {l : Addr} (ha : DE c Γ ω a (At l) ω1) (hb : DE c Γ ω1 b (I k) ω2) (hm : Hold ω2 l (Cl Rs xs)) (h : L2.atI xs k = some y) (hs : PlainIx b := by exact fun _ _ => rfl) : DE c Γ ω (.Subscript a b pos) (Rs y) ω2 := by
  intro X fx F σ B H hE hO Q hQ
  refine tW.of (pe_ix ix_list pe_w pe_w hs) ?_
  refine ha X fx F σ B H hE hO _ fun v B1 H1 e1 O1 p1 => ?_
  refine hb X fx F σ B1 H1 (hE.mono e1) O1 _ fun u B2 H2 e2 O2 p2 => ?_
  obtain ⟨_, _, o, h2, vs, rfl, h3⟩ := O2.ow _ _ hm.mem
  obtain ⟨z, q1, q2⟩ := h3.atI h
  exact ⟨l, vs, k, z, p1, p2, SqL.of h2, q1, hQ z B2 H2 (e1.trans e2) O2 q2⟩

/-! ### slices -/
def DO (c : Cc) (Γ : En) (ω : Ws) (o : Option Expr) (v : Option Int) (ω' : Ws) : Prop :=
  match o, v with
  | none, none => ω' = ω
  | some e, some i => DE c Γ ω e (I i) ω'
  | _, _ => False
def tO (X : Cx) (o : Option Expr) : TO := match o with
  | none => tNoPart
  | some e => tPart (tW X e)
theorem po_w {X : Cx} : ∀ {o : Option Expr}, PO X o (tO X o)
  | none => po_none
  | some _ => po_some pe_w
theorem DO.run {o : Option Expr} {v : Option Int} (h : DO c Γ ω o v ω1) {X : Cx} (fx : Fits c (Γ.map (·.1)) X) {F : Hp} {σ : L2.St} {B H : Hp} (hE : EnvOk Γ σ B) (hO : Own F ω B H) {Q : Option Int → Hp → Prop} (hQ : ∀ B' H', Ex B B' → Own F ω1 B' H' → Q v H') : tO X o σ H Q := by
  cases o with
  | none =>
    cases v with
    | none => have h : ω1 = ω := h; subst h; exact hQ B H (Ex.refl B) hO
    | some i => exact False.elim h
  | some e =>
    cases v with
    | none => exact False.elim h
    | some i => exact DE.run_ h fx hE hO hQ
where
  DE.run_ {e : Expr} {i : Int} (h : DE c Γ ω e (I i) ω1) {X : Cx} (fx : Fits c (Γ.map (·.1)) X) {F : Hp} {σ : L2.St} {B H : Hp} (hE : EnvOk Γ σ B) (hO : Own F ω B H) {Q : Option Int → Hp → Prop} (hQ : ∀ B' H', Ex B B' → Own F ω1 B' H' → Q (some i) H') : tPart (tW X e) σ H Q :=
    h X fx F σ B H hE hO _ fun v B1 H1 e1 O1 p1 => ⟨i, p1, hQ B1 H1 e1 O1⟩
theorem o_none : DO c Γ ω none none ω := rfl
theorem o_some (h : DE c Γ ω e (I k) ω1) : DO c Γ ω (some e) (some k) ω1 := h
theorem d_sl {lo hi : Option Expr} {i j : Option Int} (ha : DE c Γ ω a (Sq bb Rs xs) ω1) (hl : DO c Γ ω1 lo i ω2) (hh : DO c Γ ω2 hi j ω3) : DE c Γ ω (.Subscript a (.Slice lo hi none p2) pos) (Sq bb Rs (cut xs i j)) ω3 := by
  intro X fx F σ B H hE hO Q hQ
  have go : ∀ (r : V → Option Int → Option Int → Hp → VK → Prop), SlR X r → (∀ v B2 H2, Ex B B2 → (Sq bb Rs xs).p B2 v → Own F ω3 B2 H2 → r v i j H2 Q) → tW X (.Subscript a (.Slice lo hi none p2) pos) σ H Q := fun r hr hh' => by
    refine tW.of (pe_slice hr pe_w po_w po_w) ?_
    refine ha X fx F σ B H hE hO _ fun v B1 H1 e1 O1 p1 => ?_
    refine hl.run fx (hE.mono e1) O1 fun B2 H2 e2 O2 => ?_
    refine hh.run fx (hE.mono (e1.trans e2)) O2 fun B3 H3 e3 O3 => ?_
    exact hh' v B3 H3 ((e1.trans e2).trans e3) ((Sq bb Rs xs).mono (e2.trans e3) p1) O3
  cases bb with
  | true =>
    refine go _ sl_list fun v B2 H2 e2 p1 O2 => ?_
    obtain ⟨a', vs, rfl, h2, h3⟩ := sq_get p1 O2.ex
    refine ⟨a', vs, rfl, SqL.of h2, fun q hq => ?_⟩
    obtain ⟨O4, e4⟩ := O2.new (o := .lst (cutV vs i j)) hq
    exact hQ _ _ _ (e2.trans e4) O4 ⟨q, _, rfl, upd_same, (h3.cut i j).mp fun _ s z => (Rs s).mono e4 z⟩
  | false =>
    refine go _ sl_tupA fun v B2 H2 e2 p1 O2 => ?_
    have p0 := p1
    obtain ⟨a', vs, rfl, h2, h3⟩ := sq_get p1 O2.ex
    refine ⟨a', vs, rfl, SqT.of h2, fun hw => ?_, fun _ q hq => ?_⟩
    · have hc : cut xs i j = xs := by
        unfold cut
        have hl := h3.len
        rw [← hl, hw.1, hw.2, List.drop_zero, Nat.sub_zero, hl, List.take_length]
      rw [hc] at hQ
      exact hQ _ _ _ e2 O2 p0
    · obtain ⟨O4, e4⟩ := O2.new (o := .tup (cutV vs i j)) hq
      exact hQ _ _ _ (e2.trans e4) O4 ⟨q, _, rfl, upd_same, (h3.cut i j).mp fun _ s z => (Rs s).mono e4 z⟩

/-! ### list + list -/
theorem d_cat {ys : List α} (ha : DE c Γ ω a (L Rs xs) ω1) (hb : DE c Γ ω1 b (L Rs ys) ω2) (hl : xs.length + ys.length ≤ sizeLine) : DE c Γ ω (.BinOp a .Add b pos) (L Rs (xs ++ ys)) ω2 :=
  d_bin (fun _ => op_cat) ha hb fun F ω B H v u h1 h2 O Q q => by
    obtain ⟨a1, vs, rfl, g1, g2⟩ := sq_get h1 O.ex
    obtain ⟨b1, us, rfl, k1, k2⟩ := sq_get h2 O.ex
    refine ⟨a1, b1, vs, us, rfl, rfl, g1, k1, by rw [g2.len, k2.len]; exact hl, fun p hp => ?_⟩
    obtain ⟨O4, e4⟩ := O.new (o := .lst (vs ++ us)) hp
    exact q _ _ _ e4 O4 ⟨p, _, rfl, upd_same, (g2.append k2).mp fun _ s z => (Rs s).mono e4 z⟩

/-! ### built-ins -/
theorem gl_of {X : Cx} {N : List Str} (fx : Fits c N X) (h : Glo c.sc x) : Gl X x := by
  show X.env.scope.names.lookup x = _
  rw [fx.sc]; exact h
theorem d_callB {id : String} {r : List V → Hp → VK → Prop} {ss : List Sh} (hc : ∀ X, Fits c (Γ.map (·.1)) X → CallR X (.builtin id) r) (hg : Glo c.sc x) (hm : c.M.mg x = none) (hv : bootBuiltins x = some (.builtin id))
    (ha : DA c Γ ω (e :: es) ss ω1) (hr : RC r ss S) (hn : x ≠ "__name__" := by decide) (hdb : (x == ("__debug__" : Str)) = false := by decide)
    (he : ∀ env, starEach (e :: es) env = (false, eval e env) :: starEach es env := by intro _; rfl) (hpl : ∀ env, (backTo pos (starEach es env)).any (·.1) = false := by intro _; rfl) : DE c Γ ω (.Call (.Name x p) (e :: es) [] pos) S ω1 := by
  intro X fx F σ B H hE hO Q hQ
  refine tW.of (pe_callB (hc X fx) (gl_of fx hg) (by rw [fx.mg]; exact hm) hv pa_w hn hdb (he _) (hpl _)) ?_
  refine ha X fx F σ B H hE hO _ fun vs B1 H1 e1 O1 p1 => ?_
  exact hr F ω1 B1 H1 vs p1 O1 Q fun z B' H' e3 O3 p3 => hQ z B' H' (e1.trans e3) O3 p3
theorem d_callTy {id : String} {r : List V → Hp → VK → Prop} {ss : List Sh} (hc : ∀ X, Fits c (Γ.map (·.1)) X → CallR X (.type id) r) (hg : Glo c.sc x) (hm : c.M.mg x = none) (hv : bootBuiltins x = some (.type id))
    (ha : DA c Γ ω (e :: es) ss ω1) (hr : RC r ss S) (hn : x ≠ "__name__" := by decide) (hdb : (x == ("__debug__" : Str)) = false := by decide)
    (he : ∀ env, starEach (e :: es) env = (false, eval e env) :: starEach es env := by intro _; rfl) (hpl : ∀ env, (backTo pos (starEach es env)).any (·.1) = false := by intro _; rfl) : DE c Γ ω (.Call (.Name x p) (e :: es) [] pos) S ω1 := by
  intro X fx F σ B H hE hO Q hQ
  refine tW.of (pe_callTy (hc X fx) (gl_of fx hg) (by rw [fx.mg]; exact hm) hv pa_w hn hdb (he _) (hpl _)) ?_
  refine ha X fx F σ B H hE hO _ fun vs B1 H1 e1 O1 p1 => ?_
  exact hr F ω1 B1 H1 vs p1 O1 Q fun z B' H' e3 O3 p3 => hQ z B' H' (e1.trans e3) O3 p3
theorem all1 {B : Hp} {vs : List V} {s : Sh} (h : All2 (fun v (s : Sh) => s.p B v) vs [s]) : ∃ v, vs = [v] ∧ s.p B v := by
  cases h with
  | cons h t => cases t; exact ⟨_, rfl, h⟩
theorem all2 {B : Hp} {vs : List V} {s t : Sh} (h : All2 (fun v (s : Sh) => s.p B v) vs [s, t]) : ∃ v u, vs = [v, u] ∧ s.p B v ∧ t.p B u := by
  cases h with
  | cons h t =>
    obtain ⟨u, rfl, q⟩ := all1 t
    exact ⟨_, u, rfl, h, q⟩
theorem rc1 {r : List V → Hp → VK → Prop} {s : Sh} (h : ∀ F ω B H v, s.p B v → Own F ω B H → ∀ Q : VK, (∀ z B' H', Ex B B' → Own F ω B' H' → S.p B' z → Q z H') → r [v] H Q) : RC r [s] S := fun F ω B H vs hv O Q q => by
  obtain ⟨v, rfl, h1⟩ := all1 hv
  exact h F ω B H v h1 O Q q
theorem rc2 {r : List V → Hp → VK → Prop} {s t : Sh} (h : ∀ F ω B H v u, s.p B v → t.p B u → Own F ω B H → ∀ Q : VK, (∀ z B' H', Ex B B' → Own F ω B' H' → S.p B' z → Q z H') → r [v, u] H Q) : RC r [s, t] S := fun F ω B H vs hv O Q q => by
  obtain ⟨v, u, rfl, h1, h2⟩ := all2 hv
  exact h F ω B H v u h1 h2 O Q q
theorem d_len (ha : DE c Γ ω a (Sq bb Rs xs) ω1) (hm : c.M.mg "len" = none) (hg : Glo c.sc "len" := by exact rfl) (he : ∀ env, starEach [a] env = (false, eval a env) :: starEach [] env := by intro _; rfl) : DE c Γ ω (.Call (.Name "len" p) [a] [] pos) (I (xs.length : Int)) ω1 :=
  d_callB (r := Evl.rLenS c.M.K) (fun X fx => by rw [← fx.K]; exact call_len_seq) hg hm PySem.boot_len (a_cons ha a_nil he) (rc1 fun F ω B H v hv O Q q => by
    obtain ⟨a1, vs, rfl, g1, g2⟩ := sq_get hv O.ex
    refine ⟨a1, vs, rfl, ?_, q _ B H (Ex.refl B) O (by show V.int _ = V.int _; rw [g2.len])⟩
    cases bb with
    | true => exact .inl (SqL.of g1)
    | false => exact .inr (SqT.of g1)) (he := he)
theorem d_lenO {l : Addr} (ha : DE c Γ ω a (At l) ω1) (hh : Hold ω1 l (Cl Rs xs)) (hm : c.M.mg "len" = none) (hg : Glo c.sc "len" := by exact rfl) (he : ∀ env, starEach [a] env = (false, eval a env) :: starEach [] env := by intro _; rfl) : DE c Γ ω (.Call (.Name "len" p) [a] [] pos) (I (xs.length : Int)) ω1 := by
  intro X fx F σ B H hE hO Q hQ
  refine tW.of (pe_callB call_len_seq (gl_of fx hg) (by rw [fx.mg]; exact hm) PySem.boot_len pa_w (he := he _)) ?_
  refine a_cons ha a_nil he X fx F σ B H hE hO _ fun vs B1 H1 e1 O1 p1 => ?_
  obtain ⟨v, rfl, hv⟩ := all1 p1
  obtain ⟨_, _, o, h2, us, rfl, h3⟩ := O1.ow _ _ hh.mem
  exact ⟨l, us, by rw [show v = V.ref l from hv], .inl (SqL.of h2), hQ _ B1 H1 e1 O1 (by show V.int _ = V.int _; rw [h3.len])⟩
theorem d_lenU {ss : List Sh} (ha : DE c Γ ω a (U ss) ω1) (hm : c.M.mg "len" = none) (hg : Glo c.sc "len" := by exact rfl) (he : ∀ env, starEach [a] env = (false, eval a env) :: starEach [] env := by intro _; rfl) : DE c Γ ω (.Call (.Name "len" p) [a] [] pos) (I (ss.length : Int)) ω1 :=
  d_callB (r := Evl.rLenS c.M.K) (fun X fx => by rw [← fx.K]; exact call_len_seq) hg hm PySem.boot_len (a_cons ha a_nil he) (rc1 fun F ω B H v hv O Q q => by
    obtain ⟨a1, vs, rfl, g1, g2⟩ := hv
    exact ⟨a1, vs, rfl, .inr (SqT.of (O.ex _ _ g1)), q _ B H (Ex.refl B) O (by show V.int _ = V.int _; rw [g2.len])⟩) (he := he)
section
variable {i j : Int}
theorem d_max2 [Cold c] (ha : DE c Γ ω a (I i) ω1) (hb : DE c Γ ω1 b (I j) ω2) (hm : c.M.mg "max" = none) (hg : Glo c.sc "max" := by exact rfl) (he : ∀ env, starEach [a, b] env = (false, eval a env) :: starEach [b] env := by intro _; rfl)
    (he2 : ∀ env, starEach [b] env = (false, eval b env) :: starEach [] env := by intro _; rfl) (hpl : ∀ env, (backTo pos (starEach [b] env)).any (·.1) = false := by intro _; rfl) : DE c Γ ω (.Call (.Name "max" p) [a, b] [] pos) (I (max i j)) ω2 :=
  d_callB (fun _ fx => call_max2 fx.calm) hg hm PyProof.Rows.boot_max (a_cons ha (a_cons hb a_nil he2) he) (rc2 fun F ω B H v u h1 h2 O Q q => by
    have h1 : v = .int i := h1
    have h2 : u = .int j := h2
    subst h1 h2
    refine ⟨i, j, rfl, q _ B H (Ex.refl B) O ?_⟩
    show V.int _ = V.int _
    congr 1
    split <;> omega) (he := he) (hpl := hpl)
theorem d_min2 [Cold c] (ha : DE c Γ ω a (I i) ω1) (hb : DE c Γ ω1 b (I j) ω2) (hm : c.M.mg "min" = none) (hg : Glo c.sc "min" := by exact rfl) (he : ∀ env, starEach [a, b] env = (false, eval a env) :: starEach [b] env := by intro _; rfl)
    (he2 : ∀ env, starEach [b] env = (false, eval b env) :: starEach [] env := by intro _; rfl) (hpl : ∀ env, (backTo pos (starEach [b] env)).any (·.1) = false := by intro _; rfl) : DE c Γ ω (.Call (.Name "min" p) [a, b] [] pos) (I (min i j)) ω2 :=
  d_callB (fun _ fx => call_min2 fx.calm) hg hm PyProof.Rows.boot_min (a_cons ha (a_cons hb a_nil he2) he) (rc2 fun F ω B H v u h1 h2 O Q q => by
    have h1 : v = .int i := h1
    have h2 : u = .int j := h2
    subst h1 h2
    refine ⟨i, j, rfl, q _ B H (Ex.refl B) O ?_⟩
    show V.int _ = V.int _
    congr 1
    split <;> omega) (he := he) (hpl := hpl)
theorem d_intI (ha : DE c Γ ω a (I i) ω1) (hm : c.M.mg "int" = none) (hg : Glo c.sc "int" := by exact rfl) (he : ∀ env, starEach [a] env = (false, eval a env) :: starEach [] env := by intro _; rfl) : DE c Γ ω (.Call (.Name "int" p) [a] [] pos) (I i) ω1 :=
  d_callTy (fun _ _ => call_int1) hg hm PyProof.Rows.boot_int (a_cons ha a_nil he) (rc1 fun F ω B H v hv O Q q => by
    have hv : v = .int i := hv
    subst hv
    exact .inl ⟨i, rfl, q _ B H (Ex.refl B) O rfl⟩) (he := he)
theorem d_intB {k : Bool} (ha : DE c Γ ω a (Bo k) ω1) (hm : c.M.mg "int" = none) (hg : Glo c.sc "int" := by exact rfl) (he : ∀ env, starEach [a] env = (false, eval a env) :: starEach [] env := by intro _; rfl) : DE c Γ ω (.Call (.Name "int" p) [a] [] pos) (I (if k then 1 else 0)) ω1 :=
  d_callTy (fun _ _ => call_int1) hg hm PyProof.Rows.boot_int (a_cons ha a_nil he) (rc1 fun F ω B H v hv O Q q => by
    have hv : v = .bl k := hv
    subst hv
    exact .inr ⟨k, rfl, q _ B H (Ex.refl B) O rfl⟩) (he := he)
end
theorem sq_ints {B : Hp} : ∀ {vs : List V} {ns : List Int}, All2 (fun v x => (I x).p B v) vs ns → vs = ns.map V.int
  | _, _, .nil => rfl
  | _, _, .cons h t => by
    have h : _ = V.int _ := h
    rw [h, sq_ints t]; rfl
theorem d_sum [Cold c] {ns : List Int} (ha : DE c Γ ω a (L I ns) ω1) (hm : c.M.mg "sum" = none) (hg : Glo c.sc "sum" := by exact rfl) (he : ∀ env, starEach [a] env = (false, eval a env) :: starEach [] env := by intro _; rfl) : DE c Γ ω (.Call (.Name "sum" p) [a] [] pos) (I ns.sum) ω1 :=
  d_callB (r := rSum c.M.K) (fun X fx => by rw [← fx.K]; exact cr_sum fx.calm) hg hm PyProof.Rows.boot_sum (a_cons ha a_nil he) (rc1 fun F ω B H v hv O Q q => by
    obtain ⟨a1, vs, rfl, g1, g2⟩ := sq_get hv O.ex
    have e := sq_ints g2
    subst e
    exact ⟨a1, ns, rfl, SqL.of g1, q _ B H (Ex.refl B) O rfl⟩) (he := he)
theorem d_list (ha : DE c Γ ω a (Sq bb Rs xs) ω1) (hm : c.M.mg "list" = none) (hg : Glo c.sc "list" := by exact rfl) (he : ∀ env, starEach [a] env = (false, eval a env) :: starEach [] env := by intro _; rfl) : DE c Γ ω (.Call (.Name "list" p) [a] [] pos) (L Rs xs) ω1 :=
  d_callTy (r := Evl.rListS c.M.K) (fun X fx => by rw [← fx.K]; exact call_list_of) hg hm PyProof.Rows.boot_list (a_cons ha a_nil he) (rc1 fun F ω B H v hv O Q q => by
    obtain ⟨a1, vs, rfl, g1, g2⟩ := sq_get hv O.ex
    refine ⟨a1, vs, rfl, ?_, fun l hl => ?_⟩
    · cases bb with
      | true => exact .inl (SqL.of g1)
      | false => exact .inr (SqT.of g1)
    · obtain ⟨O4, e4⟩ := O.new (o := .lst vs) hl
      exact q _ _ _ e4 O4 ⟨l, _, rfl, upd_same, g2.mp fun _ s z => (Rs s).mono e4 z⟩) (he := he)
theorem d_tuple (ha : DE c Γ ω a (Sq bb Rs xs) ω1) (hm : c.M.mg "tuple" = none) (hg : Glo c.sc "tuple" := by exact rfl) (he : ∀ env, starEach [a] env = (false, eval a env) :: starEach [] env := by intro _; rfl) : DE c Γ ω (.Call (.Name "tuple" p) [a] [] pos) (Sq false Rs xs) ω1 :=
  d_callTy (r := rTupS c.M.K) (fun X fx => by rw [← fx.K]; exact call_tuple_of) hg hm PyProof.Rows.boot_tuple (a_cons ha a_nil he) (rc1 fun F ω B H v hv O Q q => by
    have hv0 := hv
    obtain ⟨a1, vs, rfl, g1, g2⟩ := sq_get hv O.ex
    refine ⟨a1, vs, rfl, ?_⟩
    cases bb with
    | true =>
      refine .inl ⟨SqL.of g1, fun l hl => ?_⟩
      obtain ⟨O4, e4⟩ := O.new (o := .tup vs) hl
      exact q _ _ _ e4 O4 ⟨l, _, rfl, upd_same, g2.mp fun _ s z => (Rs s).mono e4 z⟩
    | false => exact .inr ⟨SqT.of g1, q _ B H (Ex.refl B) O hv0⟩) (he := he)
/-- isinstance(x, T), T a built-in type -/
def TyS (K : PySem.W.Frag) (S : Sh) (n : String) : Prop := ∀ B v, S.p B v → TyX K B v (.type n)
theorem tyx_mono {K : PySem.W.Frag} {B H : Hp} {v : V} {t : Value} (e : Ex B H) (h : TyX K B v t) : TyX K H v t := by
  cases h with
  | base b =>
    refine .base ?_
    cases b with
    | non => exact .non
    | bl x => exact .bl x
    | int i => exact .int i
    | str x => exact .str x
    | flt x => exact .flt x
    | lst q => exact .lst (e _ _ q)
    | frz q => exact .frz (e _ _ q)
    | tup q => exact .tup (e _ _ q)
    | dK q => exact .dK (e _ _ q)
    | dT q => exact .dT (e _ _ q)
    | ins q a b c d f => exact .ins (e _ _ q) a b c d f
  | byt b => exact .byt b
  | set q => exact .set (e _ _ q)
  | kList q c => exact .kList q c
  | kTuple q c => exact .kTuple q c
  | kDict q c => exact .kDict q c
  | fTuple q => exact .fTuple (e _ _ q)
  | fDict q => exact .fDict (e _ _ q)
theorem ty_int {K : PySem.W.Frag} {i : Int} : TyS K (I i) "int" := fun B v h => by
  have h : v = .int i := h
  rw [h]; exact .base (.int i)
theorem ty_bool {K : PySem.W.Frag} {i : Bool} : TyS K (Bo i) "bool" := fun B v h => by
  have h : v = .bl i := h
  rw [h]; exact .base (.bl i)
theorem ty_str {K : PySem.W.Frag} {i : Str} : TyS K (Tx i) "str" := fun B v h => by
  have h : v = .str i := h
  rw [h]; exact .base (.str i)
theorem ty_none {K : PySem.W.Frag} : TyS K No "NoneType" := fun B v h => by
  have h : v = .non := h
  rw [h]; exact .base .non
theorem ty_U {K : PySem.W.Frag} {ss : List Sh} : TyS K (U ss) "tuple" := fun B v h => by
  obtain ⟨a, vs, rfl, h2, _⟩ := h
  exact .base (.tup h2)
theorem ty_tup {K : PySem.W.Frag} : TyS K (Sq false Rs xs) "tuple" := fun B v h => by
  obtain ⟨a, vs, rfl, h2, _⟩ := h
  exact .base (.tup h2)
theorem ty_lst {K : PySem.W.Frag} : TyS K (Sq true Rs xs) "list" := fun B v h => by
  obtain ⟨a, vs, rfl, h2, _⟩ := h
  exact .base (.lst h2)
theorem d_isi {n m : String} {t : Str} {k : Bool} {pt : Pos} (ha : DE c Γ ω a SA ω1) (hS : ∀ K, TyS K SA n) (hk : kitB n m = some k) (hm : c.M.mg "isinstance" = none) (hmt : c.M.mg t = none) (hbt : bootBuiltins t = some (.type m)) (hg : Glo c.sc "isinstance" := by exact rfl)
    (hgt : Glo c.sc t := by exact rfl) (hn : t ≠ "__name__" := by decide) (hdb : (t == ("__debug__" : Str)) = false := by decide) (he : ∀ env, starEach [a, .Name t pt] env = (false, eval a env) :: starEach [.Name t pt] env := by intro _; rfl) : DE c Γ ω (.Call (.Name "isinstance" p) [a, .Name t pt] [] pos) (Bo k) ω1 := by
  refine d_callB (ss := [SA, Sc (.ty m)]) (r := fun vs H Q => rIsi c.M.K vs H Q) (fun X fx => by rw [← fx.K]; exact call_isi) hg hm PyProof.Rows.boot_isinstance (a_cons ha (a_cons ?_ a_nil) he) (rc2 fun F ω B H v u h1 h2 O Q q => ?_) (he := he)
  · intro X fx F σ B H hE hO Q hQ
    exact tW.of (pe_bltn (gl_of fx hgt) (by rw [fx.mg]; exact hmt) hbt (v := .ty m) rfl hn hdb) (hQ _ B H (Ex.refl B) hO rfl)
  · exact ⟨v, u, .type n, .type m, k, rfl, by rw [show u = V.ty m from h2]; exact .ty m, tyx_mono O.ex (hS _ B v h1), kit_ty hk, q _ B H (Ex.refl B) O rfl⟩
/-- x is True, x is False -/
def rIsT : L2.R2 := fun x y H Q => ∃ k, y = .bl k ∧ Q (.bl (decide (x = .bl k))) H
theorem op_isT {X : Cx} : OpR X (compareOp .Is) rIsT := by
  intro pins s σ H x y v u Q I rx ry h
  obtain ⟨k, rfl, q⟩ := h
  cases (show u = Value.bool k from ry)
  by_cases z : x = .bl k
  · subst z
    cases (show v = Value.bool k from rx)
    exact wpAny_is_self rfl ⟨.bl true, H, I, rfl, by simpa using q⟩
  · have hne : v ≠ Value.bool k := fun e => z (by
      have := rx.inj (y := .bl k) (by rw [e]; rfl)
      exact this)
    have hp : plainIs v (.bool k) = true := by
      cases x <;> first
        | (cases rx; rfl)
        | (obtain ⟨t, rfl⟩ := rx; rfl)
    exact wpAny_is_other hp hne ⟨.bl false, H, I, rfl, by simpa [z] using q⟩
def IsTB (S : Sh) (k r : Bool) : Prop := ∀ B v, S.p B v → decide (v = V.bl k) = r
theorem istb_sc {v : V} {k : Bool} : IsTB (Sc v) k (decide (v = .bl k)) := fun B u h => by
  have h : u = v := h
  rw [h]
theorem istb_seq {k : Bool} : IsTB (Sq bb Rs xs) k false := fun B u h => by
  obtain ⟨a, vs, rfl, _⟩ := h
  rfl
theorem istb_tup {ss : List Sh} {k : Bool} : IsTB (U ss) k false := fun B u h => by
  obtain ⟨a, vs, rfl, _⟩ := h
  rfl
theorem t_isT {k r : Bool} {j p'} (ha : DE c Γ ω a SA ω1) (h : IsTB SA k r) : DT c Γ ω (.Compare a [.Is] [.Constant (.bool k) j p'] pos) (· = r) ω1 :=
  t_cmp (fun _ _ => op_isT) ha d_bool (fun F ω B H v u h1 h2 O Q q => ⟨k, h2, q _ B H (Ex.refl B) O ⟨_, h _ _ h1, rfl⟩⟩) (nomark _)
theorem d_isT {k r : Bool} {j p'} (ha : DE c Γ ω a SA ω1) (h : IsTB SA k r) : DE c Γ ω (.Compare a [.Is] [.Constant (.bool k) j p'] pos) (Bo r) ω1 :=
  d_cmp (fun _ _ => op_isT) ha d_bool (fun F ω B H v u h1 h2 O Q q => ⟨k, h2, q _ B H (Ex.refl B) O (by show V.bl _ = V.bl _; rw [h _ _ h1])⟩) (nomark _)
/-- data == data -/
def IsD (S : Sh) (d : PyData) : Prop := ∀ K B v, S.p B v → Dp K B v d
theorem dp_mono {K : PySem.W.Frag} {B H : Hp} (e : Ex B H) : ∀ {v : V} {d : PyData}, Dp K B v d → Dp K H v d := by
  intro v d h
  exact Dp.rec (motive_1 := fun v d _ => Dp K H v d) (motive_2 := fun vs ds _ => DpAll K H vs ds) .non .bl .int .str (fun hs _ ih => .lst (Evl.ex_l e hs) ih) (fun hs _ ih => .tup (Evl.ex_t e hs) ih) .nil (fun _ _ h1 h2 => .cons h1 h2) h
theorem isd_int {i : Int} : IsD (I i) (.int i) := fun K B v h => by
  have h : v = .int i := h
  rw [h]; exact .int i
theorem isd_str {i : Str} : IsD (Tx i) (.str i) := fun K B v h => by
  have h : v = .str i := h
  rw [h]; exact .str i
theorem isd_bool {i : Bool} : IsD (Bo i) (.bool i) := fun K B v h => by
  have h : v = .bl i := h
  rw [h]; exact .bl i
theorem isd_none : IsD No .none := fun K B v h => by
  have h : v = .non := h
  rw [h]; exact .non
theorem isd_all {f : α → PyData} (hf : ∀ x, IsD (Rs x) (f x)) (K : PySem.W.Frag) (B : Hp) : ∀ {vs : List V} {xs : List α}, All2 (fun v x => (Rs x).p B v) vs xs → DpAll K B vs (xs.map f)
  | _, _, .nil => .nil
  | _, _, .cons h t => .cons (hf _ K B _ h) (isd_all hf K B t)
theorem isd_seq {f : α → PyData} (hf : ∀ x, IsD (Rs x) (f x)) : IsD (Sq bb Rs xs) (if bb then .list (xs.map f) else .tuple (xs.map f)) := fun K B v h => by
  obtain ⟨a, vs, rfl, h2, h3⟩ := h
  cases bb with
  | true => exact .lst (SqL.of h2) (isd_all hf K B h3)
  | false => exact .tup (SqT.of h2) (isd_all hf K B h3)
inductive IsDs : List Sh → List PyData → Prop
  | nil : IsDs [] []
  | cons {s d ss ds} : IsD s d → IsDs ss ds → IsDs (s :: ss) (d :: ds)
theorem IsDs.all (K : PySem.W.Frag) (B : Hp) : ∀ {ss : List Sh} {ds : List PyData} {vs : List V}, IsDs ss ds → All2 (fun v (s : Sh) => s.p B v) vs ss → DpAll K B vs ds
  | _, _, _, .nil, .nil => .nil
  | _, _, _, .cons h t, .cons q r => .cons (h K B _ q) (IsDs.all K B t r)
theorem isd_U {ss : List Sh} {ds : List PyData} (h : IsDs ss ds) : IsD (U ss) (.tuple ds) := fun K B v hv => by
  obtain ⟨a, vs, rfl, h2, h3⟩ := hv
  exact .tup (SqT.of h2) (h.all K B h3)
theorem d_eqD [Cold c] {d1 d2 : PyData} (ha : DE c Γ ω a SA ω1) (hb : DE c Γ ω1 b SB ω2) (h1 : IsD SA d1) (h2 : IsD SB d2) (s1 : SeqAt.shaped d1 = true) (s2 : SeqAt.shaped d2 = true) : DE c Γ ω (.Compare a [.Eq] [b] pos) (Bo (PyData.eqv d1 d2)) ω2 :=
  d_cmp (r := rEqD c.M.K) (fun X fx => by rw [← fx.K]; exact op_eqD fx.room.units) ha hb (fun F ω B H v u q1 q2 O Q q => ⟨d1, d2, dp_mono O.ex (h1 _ B v q1), dp_mono O.ex (h2 _ B u q2), s1, s2, q _ B H (Ex.refl B) O rfl⟩) (nomark _)

/-! ### calls of defs -/
/-- a def's contract -/
structure Ct (τ : Type) where
  As : τ → List Sh
  pre : τ → Prop := fun _ => True
  S : τ → Sh
  ω : τ → Ws := fun _ => []
  ω' : τ → Ws := fun _ => []
  ad : ∀ g, (ω' g).map (·.1) = (ω g).map (·.1) := by intro _; rfl
def Ct.sp {τ : Type} (t : Ct τ) : Sp := fun vs H Q _ => ∃ (g : τ) (F B : Hp), t.pre g ∧ All2 (fun v (s : Sh) => s.p B v) vs (t.As g) ∧ Own F (t.ω g) B H ∧ ∀ v B' H', Ex B B' → Own F (t.ω' g) B' H' → (t.S g).p B' v → Q v H'
/-- the def named x of the module keeps the contract -/
def Gd {τ : Type} (M : Mo) (k : Nat) (x : Str) (ps : List Str) (t : Ct τ) : Prop :=
  ∃ (f : Addr) (fd : FuncData), FnOk M.P M.w M.K M.mg M.base CX0 k f fd ps t.sp ∧ M.mg x = some (.ref f) ∧ PySem.W.keepIn M.K (.ref f) = true ∧ Binds M.K fd ps []
theorem d_call [Cold c] {τ : Type} {t : Ct τ} {k : Nat} {ps : List Str} {ss : List Sh} {rest : Ws} (g : τ) (G : Gd c.M k x ps t) (hk : k ≤ c.k) (ha : DA c Γ ω (e :: es) ss ω1) (hs : ss = t.As g) (hp : t.pre g) (hω : ω1 = t.ω g ++ rest)
    (hg : Glo c.sc x := by exact rfl) (hdb : (x == ("__debug__" : Str)) = false := by decide) (he : ∀ env, starEach (e :: es) env = (false, eval e env) :: starEach es env := by intro _; rfl) (hpl : ∀ env, (backTo pos (starEach es env)).any (·.1) = false := by intro _; rfl) :
    DE c Γ ω (.Call (.Name x p) (e :: es) [] pos) (t.S g) (t.ω' g ++ rest) := by
  obtain ⟨f, fd, hF, hm, hkp, hb⟩ := G
  intro X fx F σ B H hE hO Q hQ
  have hF' : FnOk X.prog X.w X.K X.mg X.base CX0 k f fd ps t.sp := by rw [fx.prog, fx.w, fx.K, fx.mg, fx.base]; exact hF
  refine tW.of (pe_call (ds := []) (dvs := []) (E := E0) hF' (fx.room.mono hk) (gl_of fx hg) (by rw [fx.mg]; exact hm) (by rw [fx.K]; exact hkp) (by rw [fx.K]; exact hb) .nil pass0 pa_w hdb (he _) (hpl _)) ?_
  refine ha X fx F σ B H hE hO _ fun vs B1 H1 e1 O1 p1 => ?_
  subst hs hω
  refine ⟨g, frame F rest H1, B1, hp, by rw [List.append_nil]; exact p1, O1.focus, fun v B' H' e2 O2 p2 => ?_⟩
  exact hQ v B' H' (e1.trans e2) (O1.unfocus e2 O2 (t.ad g)) p2
end
end ZZ

set_option maxHeartbeats 2000000
/-! Z4: statements, loops, a def by its body. -/
namespace ZZ
open PySem PySem.Spec PyProof.Rows L2
open Evl (Ex)

/-! ### new lists -/
def DN {α : Type} (c : Cc) (Γ : En) (ω : Ws) (e : Expr) (R : α → Sh) (xs : List α) (ω' : Ws) : Prop :=
  ∀ X, Fits c (Γ.map (·.1)) X → ∀ F σ B H, EnvOk Γ σ B → Own F ω B H → ∀ Q : VK, (∀ l B' H', Ex B B' → Own F (ω' ++ [(l, Cl R xs)]) B' H' → Q (.ref l) H') → tW X e σ H Q
theorem tak_last {ω : Ws} {l : Addr} {C : Co} : Tak (ω ++ [(l, C)]) l C ω := by
  induction ω with
  | nil => exact .z
  | cons e ω ih => exact .s ih
theorem DN.frz {α : Type} {c : Cc} {Γ : En} {ω ω' : Ws} {e : Expr} {R : α → Sh} {xs : List α} (h : DN c Γ ω e R xs ω') : DE c Γ ω e (L R xs) ω' := fun X fx F σ B H hE hO Q hQ =>
  h X fx F σ B H hE hO Q fun l B' H' e1 O1 => by
    obtain ⟨o, h1, ⟨vs, rfl, h3⟩, O2, e2⟩ := O1.freeze tak_last
    exact hQ _ _ _ (e1.trans e2) O2 ⟨l, vs, rfl, upd_same, h3.mp fun _ s q => (R s).mono e2 q⟩
section
variable {c : Cc} {Γ : En} {ω ω1 ω2 ω3 : Ws} {a b e : Expr} {es : List Expr} {α : Type} {Rs : α → Sh} {xs : List α} {pos p p2 : Pos} {bb : Bool}
theorem n_lst (h : DA c Γ ω es (xs.map Rs) ω1) (hl : xs.length ≤ sizeLine := by show _ ≤ 16777216; simp) : DN c Γ ω (.List es pos) Rs xs ω1 := by
  intro X fx F σ B H hE hO Q hQ
  refine tW.of (pe_lst pa_w) ?_
  refine h X fx F σ B H hE hO _ fun vs B1 H1 e1 O1 p1 => ⟨by rw [p1.len, List.length_map]; exact hl, fun p hp => ?_⟩
  exact hQ p _ _ e1 (O1.add hp (C := Cl Rs xs) ⟨vs, rfl, All2.of_map p1⟩)
theorem n_sl {lo hi : Option Expr} {i j : Option Int} (ha : DE c Γ ω a (L Rs xs) ω1) (hl : DO c Γ ω1 lo i ω2) (hh : DO c Γ ω2 hi j ω3) : DN c Γ ω (.Subscript a (.Slice lo hi none p2) pos) Rs (cut xs i j) ω3 := by
  intro X fx F σ B H hE hO Q hQ
  refine tW.of (pe_slice sl_list pe_w po_w po_w) ?_
  refine ha X fx F σ B H hE hO _ fun v B1 H1 e1 O1 p1 => ?_
  refine hl.run fx (hE.mono e1) O1 fun B2 H2 e2 O2 => ?_
  refine hh.run fx (hE.mono (e1.trans e2)) O2 fun B3 H3 e3 O3 => ?_
  obtain ⟨a', vs, rfl, h2, h3⟩ := sq_get ((L Rs xs).mono (e2.trans e3) p1) O3.ex
  exact ⟨a', vs, rfl, SqL.of h2, fun q hq => hQ q _ _ ((e1.trans e2).trans e3) (O3.add hq (C := Cl Rs (cut xs i j)) ⟨_, rfl, h3.cut i j⟩)⟩
theorem n_list (ha : DE c Γ ω a (Sq bb Rs xs) ω1) (hm : c.M.mg "list" = none) (hg : Glo c.sc "list" := by exact rfl) (he : ∀ env, starEach [a] env = (false, eval a env) :: starEach [] env := by intro _; rfl) : DN c Γ ω (.Call (.Name "list" p) [a] [] pos) Rs xs ω1 := by
  intro X fx F σ B H hE hO Q hQ
  refine tW.of (pe_callTy call_list_of (gl_of fx hg) (by rw [fx.mg]; exact hm) PyProof.Rows.boot_list pa_w (he := he _)) ?_
  refine a_cons ha a_nil he X fx F σ B H hE hO _ fun vs B1 H1 e1 O1 p1 => ?_
  obtain ⟨v, rfl, hv⟩ := all1 p1
  obtain ⟨a1, us, rfl, g1, g2⟩ := sq_get hv O1.ex
  refine ⟨a1, us, rfl, ?_, fun l hl => hQ l _ _ e1 (O1.add hl (C := Cl Rs xs) ⟨_, rfl, g2⟩)⟩
  cases bb with
  | true => exact .inl (SqL.of g1)
  | false => exact .inr (SqT.of g1)
theorem n_cat {ys : List α} (ha : DE c Γ ω a (L Rs xs) ω1) (hb : DE c Γ ω1 b (L Rs ys) ω2) (hl : xs.length + ys.length ≤ sizeLine) : DN c Γ ω (.BinOp a .Add b pos) Rs (xs ++ ys) ω2 := by
  intro X fx F σ B H hE hO Q hQ
  refine tW.of (pe_op op_cat pe_w pe_w) ?_
  refine ha X fx F σ B H hE hO _ fun v B1 H1 e1 O1 p1 => ?_
  refine hb X fx F σ B1 H1 (hE.mono e1) O1 _ fun u B2 H2 e2 O2 p2 => ?_
  obtain ⟨a1, vs, rfl, g1, g2⟩ := sq_get ((L Rs xs).mono e2 p1) O2.ex
  obtain ⟨b1, us, rfl, k1, k2⟩ := sq_get p2 O2.ex
  exact ⟨a1, b1, vs, us, rfl, rfl, g1, k1, by rw [g2.len, k2.len]; exact hl, fun p hp => hQ p _ _ (e1.trans e2) (O2.add hp (C := Cl Rs (xs ++ ys)) ⟨_, rfl, g2.append k2⟩)⟩
end

/-- one slot told anew -/
inductive Upg : En → Str → Sh → Sh → En → Prop
  | z {Γ x S T} : Upg ((x, some S) :: Γ) x S T ((x, some T) :: Γ)
  | s {Γ e x S T Γ'} : Upg Γ x S T Γ' → Upg (e :: Γ) x S T (e :: Γ')
theorem Upg.names : ∀ {Γ Γ' : En} {x : Str} {S T : Sh}, Upg Γ x S T Γ' → Γ'.map (·.1) = Γ.map (·.1)
  | _, _, _, _, _, .z => rfl
  | _, _, _, _, _, .s h => by simp [h.names]
theorem Upg.env : ∀ {Γ Γ' : En} {x : Str} {S T : Sh} {σ : L2.St} {B : Hp}, Upg Γ x S T Γ' → (∀ v, S.p B v → T.p B v) → EnvOk Γ σ B → EnvOk Γ' σ B
  | _, _, _, _, _, [], _, .z, _, h => h.elim
  | _, _, _, _, _, _ :: _, _, .z, f, h => ⟨let ⟨v, h1, h2⟩ := h.1; ⟨v, h1, f v h2⟩, h.2⟩
  | (_, none) :: _, _, _, _, _, [], _, .s _, _, h => h.elim
  | (_, some _) :: _, _, _, _, _, [], _, .s _, _, h => h.elim
  | (_, none) :: _, _, _, _, _, _ :: σ, _, .s q, f, h => q.env (σ := σ) f h
  | (_, some _) :: _, _, _, _, _, _ :: σ, _, .s q, f, h => ⟨h.1, q.env (σ := σ) f h.2⟩

/-! ### statements -/
def Lo (c : Cc) (x : Str) : Prop := c.sc.names.lookup x = some .local ∨ (c.cl = true ∧ c.sc.names.lookup x = some .cell)
theorem Fits.re {c : Cc} {N N' : List Str} {X : Cx} (fx : Fits c N X) (e : N' = N) : Fits c N' X := e ▸ fx
theorem Fits.lo {c : Cc} {N : List Str} {X : Cx} {x : Str} (fx : Fits c N X) (h : Lo c x) : Loc X.env.scope x ∧ (X.fn x = true ∨ X.env.scope.names.lookup x = some .local) := by
  rcases h with h | h
  · exact ⟨.inl (by rw [fx.sc]; exact h), .inr (by rw [fx.sc]; exact h)⟩
  · exact ⟨.inr (by rw [fx.sc]; exact h.2), .inl (fx.cell h.1 x h.2)⟩
def Rt (B0 F : Hp) (rt : VK) (S : Sh) (ω : Ws) : Prop := ∀ v B H, Ex B0 B → Own F ω B H → S.p B v → rt v H
theorem Rt.mono {B0 B1 F : Hp} {rt : VK} {S : Sh} {ω : Ws} (h : Rt B0 F rt S ω) (e : Ex B0 B1) : Rt B1 F rt S ω := fun v B H e1 O p => h v B H (e.trans e1) O p
section
variable {c : Cc} {X : Cx} {B0 F : Hp} {D : Ends} {Γ Γ1 Γ2 : En} {ω ω1 ω2 ω3 ωo : Ws} {S T : Sh} {R : Bool → Prop} {e o i t : Expr} {a b rest sts : List Stmt} {x : Str} {pos p p2 px : Pos} {α : Type} {Rs : α → Sh} {xs : List α} {y : α} {P : α → Prop} {l : Addr}
theorem ds_nil (h : ∀ σ B H, Ex B0 B → EnvOk Γ σ B → Own F ω B H → D.nx σ H) : DS c X B0 F D Γ ω [] := fun fx σ B H hB hE hO => tS.of pss_nil (h σ B H hB hE hO)
/-- a branch's end: on with what stands behind it -/
theorem ds_next (h : DS c X B0 F D Γ ω rest) : DS c X B0 F { D with nx := tS X rest D } Γ ω [] := fun fx σ B H hB hE hO => tS.of pss_nil (h fx σ B H hB hE hO)
theorem ds_fg (f : Fg Γ Γ1) (h : DS c X B0 F D Γ1 ω sts) : DS c X B0 F D Γ ω sts := fun fx σ B H hB hE hO => h (fx.re f.names) σ B H hB (f.env hE) hO
theorem ds_asg (he : DE c Γ ω e S ω1) (hp : Put Γ x (some S) Γ1) (k : DS c X B0 F D Γ1 ω1 rest) (hl : Lo c x := by first | exact Or.inl rfl | exact Or.inr ⟨rfl, rfl⟩)
    (hs : ∀ env, swapsWithSole [.Name x px] e pos.line env = pure false := by intro _; rfl) (hw : ∀ env, swappedStores [.Name x px] e env = pure none := by intro _; rfl) : DS c X B0 F D Γ ω (.Assign [.Name x px] e pos :: rest) := by
  intro fx σ B H hB hE hO
  obtain ⟨j, h1, h2⟩ := hp.set
  refine tS.cons (ps_asg pe_w (pg_name (i := j) (by rw [fx.ns]; exact fx.nd) (by rw [fx.ns]; exact h1) (fx.lo hl).1 (fx.lo hl).2) (hs _) (hw _) (by rfl)) ?_
  refine he X fx F σ B H hE hO _ fun v B1 H1 e1 O1 p1 => ?_
  exact k (fx.re hp.names) _ B1 H1 (hB.trans e1) (h2 _ _ _ (hE.mono e1) p1) O1
theorem ds_asgE {Γ0 : En} (he : DE c Γ ω e (Es P Rs) ω1) (hn : Put Γ x none Γ0) (k : ∀ y, P y → ∃ Γ1, Put Γ x (some (Rs y)) Γ1 ∧ DS c X B0 F D Γ1 ω1 rest) (hl : Lo c x := by first | exact Or.inl rfl | exact Or.inr ⟨rfl, rfl⟩)
    (hs : ∀ env, swapsWithSole [.Name x px] e pos.line env = pure false := by intro _; rfl) (hw : ∀ env, swappedStores [.Name x px] e env = pure none := by intro _; rfl) : DS c X B0 F D Γ ω (.Assign [.Name x px] e pos :: rest) := by
  intro fx σ B H hB hE hO
  obtain ⟨j, hj⟩ := hn.ix
  refine tS.cons (ps_asg pe_w (pg_name (i := j) (by rw [fx.ns]; exact fx.nd) (by rw [fx.ns]; exact hj) (fx.lo hl).1 (fx.lo hl).2) (hs _) (hw _) (by rfl)) ?_
  refine he X fx F σ B H hE hO _ fun v B1 H1 e1 O1 p1 => ?_
  obtain ⟨z, hz, p1⟩ := p1
  obtain ⟨Γ1, hp, k⟩ := k z hz
  obtain ⟨j', h1, h2⟩ := hp.set
  have e : j' = j := nodup_ix fx.nd h1 hj
  subst e
  exact k (fx.re hp.names) _ B1 H1 (hB.trans e1) (h2 _ _ _ (hE.mono e1) p1) O1
/-- a new list, owned -/
theorem ds_own {Γ0 : En} (he : DN c Γ ω e Rs xs ω1) (hn : Put Γ x none Γ0) (k : ∀ l, ∃ Γ1, Put Γ x (some (At l)) Γ1 ∧ DS c X B0 F D Γ1 (ω1 ++ [(l, Cl Rs xs)]) rest) (hl : Lo c x := by first | exact Or.inl rfl | exact Or.inr ⟨rfl, rfl⟩)
    (hs : ∀ env, swapsWithSole [.Name x px] e pos.line env = pure false := by intro _; rfl) (hw : ∀ env, swappedStores [.Name x px] e env = pure none := by intro _; rfl) : DS c X B0 F D Γ ω (.Assign [.Name x px] e pos :: rest) := by
  intro fx σ B H hB hE hO
  obtain ⟨j, hj⟩ := hn.ix
  refine tS.cons (ps_asg pe_w (pg_name (i := j) (by rw [fx.ns]; exact fx.nd) (by rw [fx.ns]; exact hj) (fx.lo hl).1 (fx.lo hl).2) (hs _) (hw _) (by rfl)) ?_
  refine he X fx F σ B H hE hO _ fun l B1 H1 e1 O1 => ?_
  obtain ⟨Γ1, hp, k⟩ := k l
  obtain ⟨j', h1, h2⟩ := hp.set
  have e : j' = j := nodup_ix fx.nd h1 hj
  subst e
  exact k (fx.re hp.names) _ B1 H1 (hB.trans e1) (h2 _ _ _ (hE.mono e1) rfl) O1
theorem ds_freeze (hu : Upg Γ x (At l) (L Rs xs) Γ1) (ht : Tak ω l (Cl Rs xs) ω1) (k : DS c X B0 F D Γ1 ω1 sts) : DS c X B0 F D Γ ω sts := by
  intro fx σ B H hB hE hO
  obtain ⟨o, h1, ⟨vs, rfl, h3⟩, O2, e2⟩ := hO.freeze ht
  refine k (fx.re hu.names) σ _ H (hB.trans e2) (hu.env (fun v hv => ?_) (hE.mono e2)) O2
  exact ⟨l, vs, hv, upd_same, h3.mp fun _ s q => (Rs s).mono e2 q⟩
theorem ds_wide (hu : Upg Γ x S T Γ1) (hw : Sle S T) (k : DS c X B0 F D Γ1 ω sts) : DS c X B0 F D Γ ω sts := fun fx σ B H hB hE hO => k (fx.re hu.names) σ B H hB (hu.env (fun v hv => hw B v hv) hE) hO
theorem ds_if (ht : DT c Γ ω t R ω1) (ha : R true → DS c X B0 F { D with nx := tS X rest D } Γ ω1 a) (hb : R false → DS c X B0 F { D with nx := tS X rest D } Γ ω1 b) : DS c X B0 F D Γ ω (.If t a b pos :: rest) := by
  intro fx σ B H hB hE hO
  refine tS.cons (ps_if pt_w pss_w pss_w) ?_
  refine ht X fx F σ B H hE hO _ fun v B1 H1 e1 O1 p1 => ?_
  cases v with
  | true =>
    rw [if_pos rfl]
    exact ha p1 fx σ B1 H1 (hB.trans e1) (hE.mono e1) O1
  | false =>
    rw [if_neg Bool.false_ne_true]
    exact hb p1 fx σ B1 H1 (hB.trans e1) (hE.mono e1) O1
theorem ds_ret (hR : Rt B0 F D.rt T ωo) (he : DE c Γ ω e S (ωo ++ ω1)) (w : Sle S T) : DS c X B0 F D Γ ω (.Return (some e) pos :: rest) := by
  intro fx σ B H hB hE hO
  refine tS.cons (ps_ret pe_w) ?_
  refine he X fx F σ B H hE hO _ fun v B1 H1 e1 O1 p1 => ?_
  obtain ⟨B2, e2, O2⟩ := Own.drop (ω := ωo) (ω2 := ω1) O1
  exact hR v B2 H1 ((hB.trans e1).trans e2) O2 (T.mono e2 (w _ _ p1))
theorem ds_expr (he : DE c Γ ω e S ω1) (k : DS c X B0 F D Γ ω1 rest) (hs : ∀ env, swapsWith e none pos.line env = pure false := by intro _; rfl) : DS c X B0 F D Γ ω (.Expr e pos :: rest) := by
  intro fx σ B H hB hE hO
  refine tS.cons (ps_expr pe_w (hs _)) ?_
  exact he X fx F σ B H hE hO _ fun v B1 H1 e1 O1 p1 => k fx σ B1 H1 (hB.trans e1) (hE.mono e1) O1
theorem ds_pass (k : DS c X B0 F D Γ ω rest) : DS c X B0 F D Γ ω (.Pass pos :: rest) := fun fx σ B H hB hE hO => tS.cons ps_pass (k fx σ B H hB hE hO)
theorem ds_doc {j p'} {z : Str} (k : DS c X B0 F D Γ ω rest) : DS c X B0 F D Γ ω (.Expr (.Constant (.str z) j p') pos :: rest) := fun fx σ B H hB hE hO => tS.cons ps_doc (k fx σ B H hB hE hO)
theorem ds_brk (h : ∀ σ B H, Ex B0 B → EnvOk Γ σ B → Own F ω B H → D.bk σ H) : DS c X B0 F D Γ ω (.Break pos :: rest) := fun fx σ B H hB hE hO => tS.cons ps_break (h σ B H hB hE hO)
theorem ds_cont (h : ∀ σ B H, Ex B0 B → EnvOk Γ σ B → Own F ω B H → D.ct σ H) : DS c X B0 F D Γ ω (.Continue pos :: rest) := fun fx σ B H hB hE hO => tS.cons ps_continue (h σ B H hB hE hO)
/-- xs.append(e) -/
theorem ds_app {apos cpos : Pos} (ho : DE c Γ ω o (At l) ω) (he : DE c Γ ω e (Rs y) ω1) (hm : Hold ω l (Cl Rs xs)) (hs : Swp ω1 l (Cl Rs xs) (Cl Rs (xs ++ [y])) ω2) (hl : xs.length < sizeLine) (k : DS c X B0 F D Γ ω2 rest)
    (hbase : ∀ env, attributeBase o "append" env (eval o env) = eval o env := by intro _; rfl)
    (hfew : ∀ env, ((backTo cpos (starEach [e] env)).all (fun x => !x.1) && (backToKw cpos (keywordEach [] env)).all (fun x => x.1.isSome) && decide ([e].length + ([] : List Keyword).length + (if ([] : List Keyword).isEmpty then 0 else 1) < 30)) = true := by intro _; rfl)
    (hline : (apos.endLine == cpos.line) = true := by rfl) (hst : ∀ env, starEach [e] env = (false, eval e env) :: starEach [] env := by intro _; rfl) (hsw : ∀ env, swapsWith (.Call (.Attribute o "append" apos) [e] [] cpos) none pos.line env = pure false := by intro _; rfl) :
    DS c X B0 F D Γ ω (.Expr (.Call (.Attribute o "append" apos) [e] [] cpos) pos :: rest) := by
  intro fx σ B H hB hE hO
  refine tS.cons (ps_expr (pe_bm PySem.F.plainAttrs_list PySem.F.slot_list_append PySem.F.type_list_append mt_append pe_w (pa_cons pe_w pa_nil (hst _)) (hbase _) (hfew _) hline (hst _) rfl) (hsw _)) ?_
  refine ho X fx F σ B H hE hO _ fun v B1 H1 e1 O1 p1 => ?_
  have p1 : v = .ref l := p1
  subst p1
  refine ⟨?_, ?_⟩
  · obtain ⟨_, _, o', h2, us, rfl, h3⟩ := O1.ow _ _ hm.mem
    exact .inl ⟨rfl, us, SqL.of h2⟩
  · refine he X fx F σ B1 H1 (hE.mono e1) O1 _ fun u B2 H2 e2 O2 p2 => ?_
    obtain ⟨_, _, o', h2, us, rfl, h3⟩ := O2.ow _ _ hs.mem
    refine ⟨l, us, u, rfl, rfl, h2, by rw [h3.len]; exact hl, ?_⟩
    exact k fx σ B2 _ ((hB.trans e1).trans e2) (hE.mono (e1.trans e2)) (O2.swp hs ⟨_, rfl, h3.append (.cons p2 .nil)⟩)
theorem ds_appE {apos cpos : Pos} (ho : DE c Γ ω o (At l) ω) (he : DE c Γ ω e (Es P Rs) ω1) (hm : Hold ω l (Cl Rs xs)) (hm1 : Hold ω1 l (Cl Rs xs)) (hl : xs.length < sizeLine) (k : ∀ y, P y → ∃ ω2, Swp ω1 l (Cl Rs xs) (Cl Rs (xs ++ [y])) ω2 ∧ DS c X B0 F D Γ ω2 rest)
    (hbase : ∀ env, attributeBase o "append" env (eval o env) = eval o env := by intro _; rfl)
    (hfew : ∀ env, ((backTo cpos (starEach [e] env)).all (fun x => !x.1) && (backToKw cpos (keywordEach [] env)).all (fun x => x.1.isSome) && decide ([e].length + ([] : List Keyword).length + (if ([] : List Keyword).isEmpty then 0 else 1) < 30)) = true := by intro _; rfl)
    (hline : (apos.endLine == cpos.line) = true := by rfl) (hst : ∀ env, starEach [e] env = (false, eval e env) :: starEach [] env := by intro _; rfl) (hsw : ∀ env, swapsWith (.Call (.Attribute o "append" apos) [e] [] cpos) none pos.line env = pure false := by intro _; rfl) :
    DS c X B0 F D Γ ω (.Expr (.Call (.Attribute o "append" apos) [e] [] cpos) pos :: rest) := by
  intro fx σ B H hB hE hO
  refine tS.cons (ps_expr (pe_bm PySem.F.plainAttrs_list PySem.F.slot_list_append PySem.F.type_list_append mt_append pe_w (pa_cons pe_w pa_nil (hst _)) (hbase _) (hfew _) hline (hst _) rfl) (hsw _)) ?_
  refine ho X fx F σ B H hE hO _ fun v B1 H1 e1 O1 p1 => ?_
  have p1 : v = .ref l := p1
  subst p1
  refine ⟨?_, ?_⟩
  · obtain ⟨_, _, o', h2, us, rfl, h3⟩ := O1.ow _ _ hm.mem
    exact .inl ⟨rfl, us, SqL.of h2⟩
  · refine he X fx F σ B1 H1 (hE.mono e1) O1 _ fun u B2 H2 e2 O2 p2 => ?_
    obtain ⟨z, hz, p2⟩ := p2
    obtain ⟨ω2, hs, k⟩ := k z hz
    obtain ⟨_, _, o', h2, us, rfl, h3⟩ := O2.ow _ _ hs.mem
    refine ⟨l, us, u, rfl, rfl, h2, by rw [h3.len]; exact hl, ?_⟩
    exact k fx σ B2 _ ((hB.trans e1).trans e2) (hE.mono (e1.trans e2)) (O2.swp hs ⟨_, rfl, h3.append (.cons p2 .nil)⟩)
/-- xs[i] = e of an owned list -/
theorem ds_seti {kk : Int} {j : Nat} (he : DE c Γ ω e (Rs y) ω1) (ho : DE c Γ ω1 o (At l) ω2) (hi : DE c Γ ω2 i (I kk) ω3) (hj : ixN xs.length kk = some j) (hs : Swp ω3 l (Cl Rs xs) (Cl Rs (xs.set j y)) ωo) (k : DS c X B0 F D Γ ωo rest)
    (hss : ∀ env, swapsWithSole [.Subscript o i p] e pos.line env = pure false := by intro _; rfl) (hw : ∀ env, swappedStores [.Subscript o i p] e env = pure none := by intro _; rfl)
    (ha : ∀ env v, assign (.Subscript o i p) env v = (do
      let ov ← holding [v] (eval o env)
      let iv ← holding [v, ov] (eval i env)
      standAt p
      holding [v, ov, iv] (setItem ov iv v)
      release [v, ov, iv] []) := by intro _ _; rfl) : DS c X B0 F D Γ ω (.Assign [.Subscript o i p] e pos :: rest) := by
  intro fx σ B H hB hE hO
  refine tS.cons (ps_asg pe_w (pg_sub pe_w pe_w set_list (ha _)) (hss _) (hw _) (by rfl)) ?_
  refine he X fx F σ B H hE hO _ fun v B1 H1 e1 O1 p1 => ?_
  refine ho X fx F σ B1 H1 (hE.mono e1) O1 _ fun v2 B2 H2 e2 O2 p2 => ?_
  refine hi X fx F σ B2 H2 (hE.mono (e1.trans e2)) O2 _ fun v3 B3 H3 e3 O3 p3 => ?_
  obtain ⟨_, _, o', h2, us, rfl, h3⟩ := O3.ow _ _ hs.mem
  refine ⟨l, us, kk, j, p2, p3, h2, by rw [h3.len]; exact hj, ?_⟩
  exact k fx σ B3 _ (((hB.trans e1).trans e2).trans e3) (hE.mono ((e1.trans e2).trans e3)) (O3.swp hs ⟨_, rfl, All2.set (R := fun v x => (Rs x).p B3 v) ((Rs y).mono (e2.trans e3) p1) j h3⟩)
/-- a, b = e1, e2 -/
theorem ds_par [Cold c] {e1 e2 : Expr} {z : Str} {S1 S2 : Sh} {p1 p2' pt : Pos} {kt k2 pt2} (ha : DA c Γ ω [e1, e2] [S1, S2] ω1) (hp : Put Γ x (some S1) Γ1) (hq : Put Γ1 z (some S2) Γ2) (k : DS c X B0 F D Γ2 ω1 rest) (hne : x ≠ z := by decide)
    (hx : c.sc.names.lookup x = some .local := by exact rfl) (hz : c.sc.names.lookup z = some .local := by exact rfl)
    (hw : ∀ env : Env, env.scope = c.sc → swappedStores [.Tuple [.Name x p1, .Name z p2'] kt pt] (.Tuple [e1, e2] k2 pt2) env = pure (some [x, z]) := by (intro env h; cases env; cases h; rfl))
    (hs : ∀ env, swapsWithSole [.Tuple [.Name x p1, .Name z p2'] kt pt] (.Tuple [e1, e2] k2 pt2) pos.line env = pure false := by intro _; rfl) :
    DS c X B0 F D Γ ω (.Assign [.Tuple [.Name x p1, .Name z p2'] kt pt] (.Tuple [e1, e2] k2 pt2) pos :: rest) := by
  intro fx σ B H hB hE hO
  obtain ⟨j, h1, h2⟩ := hp.set
  obtain ⟨j2, h3, h4⟩ := hq.set
  rw [hp.names] at h3
  have hij : j ≠ j2 := by
    rintro rfl
    rw [h1] at h3
    exact hne (Option.some.inj h3)
  refine tS.cons (ps_par (i := j) (j := j2) fx.calm (by rw [fx.ns]; exact fx.nd) (by rw [fx.ns]; exact h1) (by rw [fx.ns]; exact h3) hij (by rw [fx.sc]; exact hx) (by rw [fx.sc]; exact hz) pa_w (hw _ fx.sc) (hs _)) ?_
  refine ha X fx F σ B H hE hO _ fun vs B1 H1 e1 O1 q1 => ?_
  obtain ⟨v, u, rfl, q1, q2⟩ := all2 q1
  exact ⟨v, u, rfl, k (fx.re (hq.names.trans hp.names)) _ B1 H1 (hB.trans e1) (h4 _ _ _ (h2 _ _ _ (hE.mono e1) q1) q2) O1⟩
end

/-! ### what is walked -/
def ItS {β : Type} (J : It) (n : Nat) (W : Nat → β → Prop) (Rb : β → Sh) (B1 : Hp) : Prop := ∀ B2 H2, Ex B1 B2 → Ex B2 H2 → (∀ i, i < n → J.go i H2) ∧ J.stop n H2 ∧
  ∀ i, i < n → ∀ x H3, J.yld i H2 x H3 → ∃ y, W i y ∧ ((H3 = H2 ∧ (Rb y).p B2 x) ∨ ∃ T o, H2 T = none ∧ H3 = upd H2 T o ∧ (B2 T = none → (Rb y).p (upd B2 T o) x))
def tI (X : Cx) (tg it : Expr) : TI := fun σ H R => ∀ pins s, Inv X pins σ H s → wpAny (model X.prog X.w) X.A (eval it X.env) (fun v s1 => wpAny (model X.prog X.w) X.A (pyIter v) (PIE X pins σ tg R) X.xe s1) X.xe s
theorem pi_w {X : Cx} {tg it : Expr} : PI X tg it (tI X tg it) := ⟨fun pins s _ _ _ I h => h pins s I⟩
theorem tI.of {X : Cx} {tg it : Expr} {wi : TI} {σ : L2.St} {H : Hp} {R : It → Hp → Prop} (h : PI X tg it wi) (q : wi σ H R) : tI X tg it σ H R := fun pins s I => h.run pins s σ H R I q
def DI {β : Type} (c : Cc) (Γ : En) (ω : Ws) (tg it : Expr) (n : Nat) (W : Nat → β → Prop) (Rb : β → Sh) (ω' : Ws) : Prop :=
  ∀ X, Fits c (Γ.map (·.1)) X → ∀ F σ B H, EnvOk Γ σ B → Own F ω B H → ∀ R : It → Hp → Prop, (∀ J B' H', Ex B B' → Own F ω' B' H' → ItS J n W Rb B' → R J H') → tI X tg it σ H R
section
variable {c : Cc} {Γ : En} {ω ω1 ω2 : Ws} {tg it a b d : Expr} {α β : Type} {Rs : α → Sh} {xs : List α} {bb : Bool} {pos p : Pos} {i j k : Int}
theorem i_seq (h : DE c Γ ω it (Sq bb Rs xs) ω1) : DI c Γ ω tg it xs.length (fun i y => xs[i]? = some y) Rs ω1 := by
  intro X fx F σ B H hE hO R hR
  cases bb with
  | true =>
    refine tI.of (pi_list pe_w) ?_
    refine h X fx F σ B H hE hO _ fun v B1 H1 e1 O1 p1 => ?_
    obtain ⟨a1, vs, rfl, g0, g2⟩ := p1
    refine ⟨a1, rfl, ⟨vs, SqL.of (O1.ex _ _ g0)⟩, hR _ B1 H1 e1 O1 fun B2 H2 e2 e3 => ?_⟩
    have w := walk_list (K := X.K) (a := a1) (xs := vs)
    have G : SqL X.K H2 a1 vs := SqL.of (e3 _ _ (e2 _ _ g0))
    rw [← g2.len]
    refine ⟨fun i hi => w.goes i H2 hi G, w.stops H2 G, fun i hi x H3 y => ?_⟩
    obtain ⟨rfl, q⟩ := w.yields i H2 x H3 hi G y
    obtain ⟨z, q1, q2⟩ := g2.get' q
    exact ⟨z, q1, .inl ⟨rfl, (Rs z).mono e2 q2⟩⟩
  | false =>
    refine tI.of (pi_tup pe_w) ?_
    refine h X fx F σ B H hE hO _ fun v B1 H1 e1 O1 p1 => ?_
    obtain ⟨a1, vs, rfl, g0, g2⟩ := p1
    refine ⟨a1, rfl, ⟨vs, SqT.of (O1.ex _ _ g0)⟩, hR _ B1 H1 e1 O1 fun B2 H2 e2 e3 => ?_⟩
    have w := walk_tup (K := X.K) (a := a1) (xs := vs)
    have G : SqT X.K H2 a1 vs := SqT.of (e3 _ _ (e2 _ _ g0))
    rw [← g2.len]
    refine ⟨fun i hi => w.goes i H2 hi G, w.stops H2 G, fun i hi x H3 y => ?_⟩
    obtain ⟨rfl, q⟩ := w.yields i H2 x H3 hi G y
    obtain ⟨z, q1, q2⟩ := g2.get' q
    exact ⟨z, q1, .inl ⟨rfl, (Rs z).mono e2 q2⟩⟩
theorem i_rng1 (ha : DE c Γ ω a (I j) ω1) (hm : c.M.mg "range" = none) (hj : j < 2 ^ 62 := by omega) (hj' : -(2 ^ 62) ≤ j := by omega) (hg : Glo c.sc "range" := by exact rfl) (he : ∀ env, starEach [a] env = [(false, eval a env)] := by intro _; rfl) :
    DI c Γ ω tg (.Call (.Name "range" p) [a] [] pos) j.toNat (fun i y => y = (i : Int)) I ω1 := by
  intro X fx F σ B H hE hO R hR
  refine tI.of (pi_range1 (gl_of fx hg) (by rw [fx.mg]; exact hm) pa_w (he _)) ?_
  refine a_cons ha a_nil (by intro env; rw [he]; rfl) X fx F σ B H hE hO _ fun vs B1 H1 e1 O1 p1 => ?_
  obtain ⟨v, rfl, hv⟩ := all1 p1
  refine ⟨j, by rw [show v = V.int j from hv], hj', hj, hR _ B1 H1 e1 O1 fun B2 H2 e2 e3 => ?_⟩
  refine ⟨fun i hi => hi, Nat.le_refl _, fun i hi x H3 y => ?_⟩
  obtain ⟨rfl, q⟩ := y
  exact ⟨(i : Int), rfl, .inl ⟨rfl, by rw [q, Int.zero_add]; rfl⟩⟩
theorem i_rng2 (ha : DE c Γ ω a (I i) ω1) (hb : DE c Γ ω1 b (I j) ω2) (hm : c.M.mg "range" = none) (hB : -(2 ^ 62) ≤ i ∧ i < 2 ^ 62 ∧ -(2 ^ 62) ≤ j ∧ j < 2 ^ 62 := by omega) (hg : Glo c.sc "range" := by exact rfl) (he : ∀ env, starEach [a, b] env = [(false, eval a env), (false, eval b env)] := by intro _; rfl)
    (he2 : ∀ env, starEach [b] env = [(false, eval b env)] := by intro _; rfl) : DI c Γ ω tg (.Call (.Name "range" p) [a, b] [] pos) (j - i).toNat (fun k y => y = i + (k : Int)) I ω2 := by
  intro X fx F σ B H hE hO R hR
  refine tI.of (pi_range2 (gl_of fx hg) (by rw [fx.mg]; exact hm) pa_w (he _) (he2 _)) ?_
  refine a_cons ha (a_cons hb a_nil (by intro env; rw [he2]; rfl)) (by intro env; rw [he, he2]) X fx F σ B H hE hO _ fun vs B1 H1 e1 O1 p1 => ?_
  obtain ⟨v, u, rfl, hv, hu⟩ := all2 p1
  refine ⟨i, j, by rw [show v = V.int i from hv, show u = V.int j from hu], hB, hR _ B1 H1 e1 O1 fun B2 H2 e2 e3 => ?_⟩
  refine ⟨fun i hi => hi, Nat.le_refl _, fun i hi x H3 y => ?_⟩
  obtain ⟨rfl, q⟩ := y
  exact ⟨_, rfl, .inl ⟨rfl, q⟩⟩
theorem all3 {B : Hp} {vs : List V} {s t r : Sh} (h : All2 (fun v (s : Sh) => s.p B v) vs [s, t, r]) : ∃ v u z, vs = [v, u, z] ∧ s.p B v ∧ t.p B u ∧ r.p B z := by
  cases h with
  | cons h t =>
    obtain ⟨u, z, rfl, q1, q2⟩ := all2 t
    exact ⟨_, u, z, rfl, h, q1, q2⟩
/-- range(i, j, -1) -/
theorem i_rngD (ha : DE c Γ ω a (I i) ω1) (hb : DE c Γ ω1 b (I j) ω2) (hd : DE c Γ ω2 d (I (-1)) ω2) (hm : c.M.mg "range" = none) (hB : -(2 ^ 62) ≤ i ∧ i < 2 ^ 62 ∧ -(2 ^ 62) ≤ j ∧ j < 2 ^ 62 := by omega) (hg : Glo c.sc "range" := by exact rfl)
    (he : ∀ env, starEach [a, b, d] env = (false, eval a env) :: starEach [b, d] env := by intro _; rfl) (he2 : ∀ env, starEach [b, d] env = (false, eval b env) :: starEach [d] env := by intro _; rfl) (he3 : ∀ env, starEach [d] env = (false, eval d env) :: starEach [] env := by intro _; rfl)
    (hpl : ∀ env, (backTo pos (starEach [b, d] env)).any (·.1) = false := by intro _; rfl) : DI c Γ ω tg (.Call (.Name "range" p) [a, b, d] [] pos) (i - j).toNat (fun k y => y = i - (k : Int)) I ω2 := by
  intro X fx F σ B H hE hO R hR
  refine tI.of (pi_range3 (gl_of fx hg) (by rw [fx.mg]; exact hm) pa_w (he _) (hpl _)) ?_
  refine a_cons ha (a_cons hb (a_cons hd a_nil he3) he2) he X fx F σ B H hE hO _ fun vs B1 H1 e1 O1 p1 => ?_
  obtain ⟨v, u, z, rfl, hv, hu, hz⟩ := all3 p1
  refine ⟨i, j, -1, (i - j).toNat, by rw [show v = V.int i from hv, show u = V.int j from hu, show z = V.int (-1) from hz], RgC.neg hB.1 hB.2.1 hB.2.2.1 hB.2.2.2, hR _ B1 H1 e1 O1 fun B2 H2 e2 e3 => ?_⟩
  refine ⟨fun i hi => hi, Nat.le_refl _, fun k hi x H3 y => ?_⟩
  obtain ⟨rfl, q⟩ := y
  exact ⟨_, rfl, .inl ⟨rfl, by rw [q]; show V.int _ = V.int _; congr 1; omega⟩⟩
end

/-! ### targets -/
def tG (X : Cx) (tg : Expr) : TG := fun v σ H Q => ∀ pins s u, Inv X pins σ H s → RelV v u → wpAny (model X.prog X.w) X.A (assign tg X.env u) (fun _ s' => ∃ σ' H', Inv X pins σ' H' s' ∧ Q σ' H') X.xe s
theorem pg_w {X : Cx} {tg : Expr} : PG X tg (tG X tg) := ⟨fun pins s _ _ _ u _ I r h => h pins s u I r⟩
theorem tG.of {X : Cx} {tg : Expr} {g : TG} {v : V} {σ : L2.St} {H : Hp} {Q : L2.St → Hp → Prop} (h : PG X tg g) (q : g v σ H Q) : tG X tg v σ H Q := fun pins s u I r => h.run pins s σ H v u Q I r q
/-- only the slots of these names may have changed -/
def Only (N ns : List Str) (σ σ' : L2.St) : Prop := σ'.length = σ.length ∧ ∀ (i : Nat) x, N[i]? = some x → x ∉ ns → σ'[i]? = σ[i]?
def DG (c : Cc) (tg : Expr) (ns : List Str) (S : Sh) (Γ Γ' : En) : Prop := Γ'.map (·.1) = Γ.map (·.1) ∧ ∀ X, Fits c (Γ.map (·.1)) X → ∀ σ B H v, EnvOk Γ σ B → Ex B H → S.p B v → ∀ Q : L2.St → Hp → Prop, (∀ σ', EnvOk Γ' σ' B → Only (Γ.map (·.1)) ns σ σ' → Q σ' H) → tG X tg v σ H Q
section
variable {c : Cc} {Γ Γ1 Γ2 : En} {x z : Str} {S S1 S2 : Sh} {p p1 pos : Pos}
theorem g_name (hp : Put Γ x (some S) Γ1) (hl : Lo c x := by first | exact Or.inl rfl | exact Or.inr ⟨rfl, rfl⟩) : DG c (.Name x p) [x] S Γ Γ1 := by
  refine ⟨hp.names, fun X fx σ B H v hE hO hv Q hQ => ?_⟩
  obtain ⟨j, h1, h2⟩ := hp.set
  refine tG.of (pg_name (i := j) (by rw [fx.ns]; exact fx.nd) (by rw [fx.ns]; exact h1) (fx.lo hl).1 (fx.lo hl).2) (hQ _ (h2 σ B v hE hv) ⟨by simp, fun k y hk hy => ?_⟩)
  refine List.getElem?_set_ne fun e => hy ?_
  subst e
  rw [h1] at hk
  simp [Option.some.inj hk]
theorem g_two [Cold c] {e1 e2 : Expr} {k} {n1 n2 : List Str} (h1 : DG c e1 n1 S1 Γ Γ1) (h2 : DG c e2 n2 S2 Γ1 Γ2) (hs : ∀ env, (assignEach [e1, e2] env).map (·.2) = assign e1 env :: (assignEach [e2] env).map (·.2) := by intro _; rfl) (hs2 : ∀ env, (assignEach [e2] env).map (·.2) = assign e2 env :: (assignEach [] env).map (·.2) := by intro _; rfl)
    (hn : ∀ env, (assignEach [e1, e2] env).length = 2 := by intro _; rfl) (hst : ∀ env, (assignEach [e1, e2] env).findIdx? (·.1) = none := by intro _; rfl) : DG c (.Tuple [e1, e2] k pos) (n1 ++ n2) (U [S1, S2]) Γ Γ2 := by
  refine ⟨h2.1.trans h1.1, fun X fx σ B H v hE hO hv Q hQ => ?_⟩
  obtain ⟨a, vs, rfl, q1, q2⟩ := hv
  obtain ⟨v, u, rfl, r1, r2⟩ := all2 q2
  refine tG.of (pg_tup (n := 2) fx.calm (pgs_cons pg_w (pgs_cons pg_w pgs_nil (hs2 _)) (hs _)) (hn _) (hst _)) ?_
  refine ⟨a, [v, u], rfl, SqT.of (hO _ _ q1), rfl, v, [u], rfl, ?_⟩
  refine h1.2 X fx σ B H v hE hO r1 _ fun σ1 hE1 o1 => ⟨u, [], rfl, ?_⟩
  refine h2.2 X (fx.re h1.1) σ1 B H u hE1 hO r2 _ fun σ2 hE2 o2 => ⟨rfl, hQ σ2 hE2 ⟨o2.1.trans o1.1, fun i x hi hx => ?_⟩⟩
  rw [o2.2 i x (by rw [h1.1]; exact hi) (fun z => hx (List.mem_append_right _ z)), o1.2 i x hi (fun z => hx (List.mem_append_left _ z))]
end

/-! ### for -/
def Jn (N : List Str) (B0 F : Hp) (J : En → Ws → Prop) : L2.St → Hp → Prop := fun σ H => ∃ Γ ω B, J Γ ω ∧ Γ.map (·.1) = N ∧ Ex B0 B ∧ EnvOk Γ σ B ∧ Own F ω B H
section
variable {c : Cc} {X : Cx} {B0 F : Hp} {D : Ends} {Γ Γ0 Γ1 Γ2 : En} {ω ω1 ω2 : Ws} {tg it : Expr} {body rest sts : List Stmt} {pos : Pos} {β : Type} {W : Nat → β → Prop} {Rb : β → Sh} {n : Nat}
/-- the body's end -/
theorem ds_turn {J : En → Ws → Prop} {N : List Str} {nx : L2.St → Hp → Prop} (f : Fg Γ Γ1) (h : J Γ1 ω) (hN : N = Γ.map (·.1)) (hx : D.nx = Jn N B0 F J) : DS c X B0 F D Γ ω [] :=
  ds_nil fun σ B H hB hE hO => by rw [hx]; exact ⟨Γ1, ω, B, h, by rw [hN, f.names], hB, f.env hE, hO⟩
theorem ds_for [Cold c] (J : Nat → En → Ws → Prop) (hi : DI c Γ ω tg it n W Rb ω1) (f : Fg Γ Γ0) (h0 : J 0 Γ0 ω1)
    (hb : ∀ B1, Ex B0 B1 → ∀ i y Γi ωi, i < n → W i y → J i Γi ωi → Γi.map (·.1) = Γ.map (·.1) → ∃ Γb ns, DG c tg ns (Rb y) Γi Γb ∧ DS c X B1 F { D with nx := Jn (Γ.map (·.1)) B1 F (J (i + 1)), ct := Jn (Γ.map (·.1)) B1 F (J (i + 1)), bk := tS X rest D } Γb ωi body)
    (hd : ∀ Γi ωi, J n Γi ωi → Γi.map (·.1) = Γ.map (·.1) → DS c X B0 F D Γi ωi rest) (hs : ∀ env x, foldedSetIterable it env x = pure x := by intro _ _; rfl) : DS c X B0 F D Γ ω (.For tg it body [] pos :: rest) := by
  intro fx σ B H hB hE hO
  refine tS.cons (ps_for fx.pass fx.calm pi_w pg_w pss_w (hs _)) ?_
  refine hi X fx F σ B H hE hO _ fun It B1 H1 e1 O1 hit => ?_
  have hB1 : Ex B0 B1 := hB.trans e1
  refine ⟨fun i m σ' H' => m = n - i ∧ i ≤ n ∧ Jn (Γ.map (·.1)) B1 F (J i) σ' H', ⟨n, by simp, Nat.zero_le _, Γ0, ω1, B1, h0, f.names, Ex.refl B1, f.env (hE.mono e1), O1⟩, ?_⟩
  rintro i m σ2 H2 ⟨rfl, hi', Γi, ωi, B2, hJ, hN, hB2, hE2, hO2⟩
  obtain ⟨q1, q2, q3⟩ := hit B2 H2 hB2 hO2.ex
  by_cases hlt : i < n
  · refine .inr ⟨q1 i hlt, Jn (Γ.map (·.1)) B1 F (J (i + 1)), fun σ' H' p' => ⟨n - (i + 1), by omega, rfl, hlt, p'⟩, fun x H3 y => ?_⟩
    obtain ⟨z, hz, q⟩ := q3 i hlt x H3 y
    obtain ⟨Γb, ns, hg, hds⟩ := hb B1 hB1 i z Γi ωi hlt hz hJ hN
    rcases q with ⟨rfl, q⟩ | ⟨T, o, hT, rfl, q⟩
    · refine hg.2 X (fx.re hN) σ2 B2 _ x hE2 hO2.ex q _ fun σ3 hE3 _ => ?_
      exact hds (fx.re (hg.1.trans hN)) σ3 B2 _ hB2 hE3 hO2
    · obtain ⟨O4, e4⟩ := hO2.new (o := o) hT
      refine hg.2 X (fx.re hN) σ2 (upd B2 T o) _ x (hE2.mono e4) O4.ex (q (hO2.none_of hT).1) _ fun σ3 hE3 _ => ?_
      exact hds (fx.re (hg.1.trans hN)) σ3 _ _ (hB2.trans e4) hE3 O4
  · have e : i = n := by omega
    subst e
    exact .inl ⟨q2, hd Γi ωi hJ hN (fx.re hN) σ2 B2 H2 (hB1.trans hB2) hE2 hO2⟩
end

/-! ### a def by its body -/
def mkΓ : List Str → List Sh → En
  | [], _ => []
  | x :: N, [] => (x, none) :: mkΓ N []
  | x :: N, s :: ss => (x, some s) :: mkΓ N ss
theorem mk_names : ∀ (N : List Str) (ss : List Sh), (mkΓ N ss).map (·.1) = N
  | [], _ => rfl
  | x :: N, [] => by show x :: (mkΓ N []).map (·.1) = _; rw [mk_names N []]
  | x :: N, s :: ss => by show x :: (mkΓ N ss).map (·.1) = _; rw [mk_names N ss]
theorem mk_none {B : Hp} : ∀ (N : List Str), EnvOk (mkΓ N []) (List.replicate N.length none) B
  | [] => trivial
  | _ :: N => mk_none N
theorem mk_env {B : Hp} : ∀ (N : List Str) (ss : List Sh) (vs : List V), All2 (fun v (s : Sh) => s.p B v) vs ss → ss.length ≤ N.length → EnvOk (mkΓ N ss) (L2.start N vs) B
  | [], [], _, .nil, _ => trivial
  | [], _ :: _, _, _, h => by simp at h
  | x :: N, [], _, .nil, _ => mk_none (x :: N)
  | x :: N, s :: ss, _, .cons (a := v) (l := vs) h t, hl => by
    have ih := mk_env (B := B) N ss vs t (by simpa using hl)
    have e : L2.start (x :: N) (v :: vs) = some v :: L2.start N vs := by
      unfold L2.start
      simp
    rw [e]
    exact ⟨⟨v, rfl, h⟩, ih⟩
theorem gd_of {τ : Type} {t : Ct τ} {M : Mo} {k : Nat} {x qual : Str} {st : Stmt} {f : Addr} {fd : FuncData} {N ps : List Str} (F : Fun M.K x qual st f fd) (S : FnScope N ps (defScope st)) (hm : M.mg x = some (.ref f)) (hb : Binds M.K fd ps []) (hlen : ∀ g, (t.As g).length = ps.length := by intro _; rfl)
    (hbody : ∀ (X : Cx) (B0 F0 : Hp) (D : Ends) (g : τ), t.pre g → Rt B0 F0 D.rt (t.S g) (t.ω' g) → (∀ σ H, D.rt .non H → D.nx σ H) → DS ⟨M, defScope st, k, true, false⟩ X B0 F0 D (mkΓ N (t.As g)) (t.ω g) (defBody st)) : Gd M (k + 1) x ps t := by
  refine ⟨f, fd, F.ok S (fun vs H Q E h => ?_) (fun cdv A outer s H vs Q E hr h => ?_), hm, F.kp, hb⟩
  · obtain ⟨g, _, _, _, h2, _⟩ := h
    rw [h2.len, hlen]
  · obtain ⟨g, F0, B, hp, hv, hO, hQ⟩ := h
    have hl : ps.length ≤ N.length := by have := congrArg List.length S.pre; rw [List.length_take] at this; omega
    refine ⟨_, pss_w, hbody _ B F0 _ g hp (fun v B' H' e1 O1 p1 => hQ v B' H' e1 O1 p1) (fun _ _ h => h) ?_ _ B H (Ex.refl B) (mk_env N _ vs hv (by rw [hlen]; exact hl)) hO⟩
    rw [mk_names]
    exact ⟨rfl, rfl, rfl, rfl, rfl, rfl, rfl, S.nd, fun _ => rfl, fun _ => hr, L2H.roomH_of hr, (fun h => nomatch h), fun _ _ _ => rfl, PassesOwn.never⟩
end ZZ

set_option maxHeartbeats 2000000
/-! Z5: enumerate and zip over lists and tuples in any mix. -/
namespace ZZ
open PySem PySem.Spec PyProof.Rows L2
open Evl (Ex)

/-! ### a list or a tuple that stands in H -/
def hoB (bb : Bool) (xs : List V) : HO := if bb then .lst xs else .tup xs
def ItB (bb : Bool) (h : Heap) (it a : Addr) (i : Nat) : Prop := match bb with
  | true => h.IsListIter it a i
  | false => h.IsTupleIter it a i
def ObB (bb : Bool) (h : Heap) (a : Addr) (items : Array Value) : Prop := match bb with
  | true => h.IsList a items
  | false => h.IsTuple a items
def itB (bb : Bool) (a : Addr) : Obj := match bb with
  | true => { cls := .type "list_iterator", data := .fields #[.ref a, .int 0 0] }
  | false => { cls := .type "tuple_iterator", data := .fields #[.ref a, .int 0 0] }
theorem draws_B {prog : Program} {w : World} {A : Around} (bb : Bool) (hh : A.handled = none) {it a : Addr} (hne : a ≠ it) (items : Array Value) : Draws prog w A it [it, a] items.size (fun i v => items[i]? = some v) (fun i h => ItB bb h it a i ∧ ObB bb h a items) := by
  cases bb with
  | true => exact Draws.list hh it a hne items
  | false => exact Draws.tuple hh it a hne items
theorem begins_B (bb : Bool) (a : Addr) (items : Array Value) : Begins (.ref a) (itB bb a) fun h => ObB bb h a items := by
  cases bb with
  | true => exact begins_list a items
  | false => exact begins_tuple a items
theorem ItB.of_get {bb : Bool} {h : Heap} {it a : Addr} (e : h.get? it = some (itB bb a)) : ItB bb h it a 0 := by
  cases bb with
  | true => exact ⟨_, e, rfl, rfl⟩
  | false => exact ⟨_, e, rfl, rfl⟩
theorem ItB.move {bb : Bool} {h h' : Heap} {it a : Addr} {i : Nat} (st : ItB bb h it a i) (k : ∀ o, h.get? it = some o → h'.get? it = some o) : ItB bb h' it a i := by
  cases bb with
  | true => exact Heap.IsListIter.at st k
  | false => exact Heap.IsTupleIter.at st k
theorem ItB.rec' {bb : Bool} {h : Heap} {it a : Addr} {i : Nat} (st : ItB bb h it a i) : ∃ o, h.get? it = some o ∧ o.cls ≠ .type "list" ∧ o.cls ≠ .type "tuple" ∧ ∀ v, o.data ≠ .cell v := by
  cases bb with
  | true =>
    obtain ⟨o, e, c, d⟩ := (show h.IsListIter it a i from st)
    exact ⟨o, e, (by rw [c]; decide +kernel), (by rw [c]; decide +kernel), fun v z => by rw [d] at z; cases z⟩
  | false =>
    obtain ⟨o, e, c, d⟩ := (show h.IsTupleIter it a i from st)
    exact ⟨o, e, (by rw [c]; decide +kernel), (by rw [c]; decide +kernel), fun v z => by rw [d] at z; cases z⟩
theorem ObB.rec' {bb : Bool} {h : Heap} {a : Addr} {items : Array Value} (p : ObB bb h a items) : ∃ o, h.get? a = some o ∧ (o.cls = .type "list" ∨ o.cls = .type "tuple") := by
  cases bb with
  | true =>
    obtain ⟨o, e, c, _⟩ := (show h.IsList a items from p)
    exact ⟨o, e, .inl c⟩
  | false =>
    obtain ⟨o, e, c, _⟩ := (show h.IsTuple a items from p)
    exact ⟨o, e, .inr c⟩
theorem ItB.apart {bb b2 : Bool} {h : Heap} {it a c : Addr} {i : Nat} {items : Array Value} (st : ItB bb h it a i) (p : ObB b2 h c items) : c ≠ it := by
  obtain ⟨o, e, n1, n2, _⟩ := st.rec'
  obtain ⟨u, e2, q⟩ := p.rec'
  rintro rfl
  rw [e] at e2; cases e2
  exact q.elim n1 n2
section
variable {X : Cx} {pins : List (Addr × Obj)} {σ : L2.St} {H : Hp} {s : Shared} {bb b2 : Bool} {a b : Addr} {xs ys : List V}
theorem src_ob (I : Inv X pins σ H s) (h : H a = some (hoB bb xs)) : ∃ its : List Value, Vals xs its ∧ ObB bb s.heap a its.toArray ∧ xs.length ≤ sizeLine := by
  cases bb with
  | true =>
    obtain ⟨its, r, p, z⟩ := I.list (SqL.of h)
    exact ⟨its, r, p.isList, z⟩
  | false =>
    obtain ⟨its, r, p, z⟩ := I.tuple (SqT.of h)
    exact ⟨its, r, p, z⟩
theorem hoB_inj (h : H a = some (hoB bb xs)) (h' : H a = some (hoB bb ys)) : xs = ys := by
  rw [h] at h'
  cases bb <;> (injection h' with e; injection e)
end

/-! ### enumerate -/
/-- one new pair a turn: the place, the item -/
def IteB (bb : Bool) (a : Addr) : It :=
  ⟨fun i H => ∃ (xs : List V) (x : V), H a = some (hoB bb xs) ∧ xs[i]? = some x, fun i H v H' => ∃ T x, v = .ref T ∧ H T = none ∧ H' = upd H T (.tup [.int (i : Nat), x]) ∧ ∀ xs, H a = some (hoB bb xs) → xs[i]? = some x,
    fun i H => ∃ xs : List V, H a = some (hoB bb xs) ∧ xs.length = i⟩
theorem turn_enumB {P : Program} {w : World} {K : PySem.W.Frag} {elts : List Expr} {kk : Nat} {tpos : Pos} (bb : Bool) (a e it : Addr) :
    Turn P w K (.Tuple elts kk tpos) (IteB bb a) [e, it] e (fun i h => (∃ old, IsEnum h e it ((i : Nat) : Int) old) ∧ ItB bb h it a i ∧ e ≠ it) where
  mem := List.mem_cons_self
  obj := fun i h st b hb => by
    obtain ⟨⟨old, he⟩, hit, _⟩ := st
    rcases (show b = e ∨ b = it by simpa using hb) with rfl | rfl
    · exact ⟨_, he, fun v q => nomatch q⟩
    · obtain ⟨o, h1, _, _, h2⟩ := hit.rec'
      exact ⟨o, h1, h2⟩
  keep := fun i h h' st k => ⟨st.1.imp fun old he => k e (by simp) _ he, st.2.1.move fun o q => k it (by simp) o q, st.2.2⟩
  item := by
    intro X hP hw hK hc i pins s σ H E I hf st hg
    subst hP hw hK
    obtain ⟨⟨old, he⟩, hit, hne⟩ := st
    obtain ⟨xs, x, hq, hx⟩ := hg
    obtain ⟨its, rv, ob, hz⟩ := src_ob I hq
    obtain ⟨u, hu, ru⟩ := rv.get hx
    have hel : e < s.heap.objs.size := Heap.lt_size he
    have hil : it < s.heap.objs.size := let ⟨_, q, _⟩ := hit.rec'; Heap.lt_size q
    have hai : a ≠ it := hit.apart ob
    have hea : e ≠ a := by
      obtain ⟨o, q1, q2⟩ := ob.rec'
      rintro rfl
      rw [he] at q1; cases q1
      rcases q2 with q | q
      · exact absurd (show Value.type "enumerate" = Value.type "list" from q) (by decide +kernel)
      · exact absurd (show Value.type "enumerate" = Value.type "tuple" from q) (by decide +kernel)
    have hi : i < its.toArray.size := by
      have := (List.getElem?_eq_some_iff.mp hu).1
      simpa using this
    have D := draws_B (prog := X.prog) (w := X.w) (A := X.A.in1) bb (I.ok.hd hc) hai its.toArray
    refine wpAny_pyNext_enum_itemD D he ⟨hit, ob⟩ hi hne (by simp [hne, hea]) fun x' h' tk hx' ho st' hT hsz hk => ?_
    have ex : x' = u := by
      have q : its.toArray[i]? = some x' := hx'
      rw [show its.toArray[i]? = some u by simpa using hu] at q
      exact (Option.some.inj q).symm
    subst ex
    refine ⟨_, rfl, wpAny_letOwnedTupleGo_enum (s := { s with heap := h', toks := tk + 1 }) ho fun h'' he' sb => ?_⟩
    have hT2 : h''.get? s.heap.objs.size = some { cls := .type "tuple", data := .seq #[.int i tk, x'] } := (sb.2 _ (Nat.ne_of_gt hel)).trans hT
    have new : ObjOk X.prog X.w (upd H s.heap.objs.size (.tup [.int (i : Nat), x])) h'' s.heap.objs.size (.tup [.int (i : Nat), x]) :=
      ⟨(show 2 ≤ sizeLine by decide), [.int i tk, x'], .cons ⟨_, rfl⟩ (.cons ru .nil), ⟨_, hT2, rfl, _, rfl⟩⟩
    have I1 : Inv X pins σ (upd H s.heap.objs.size (.tup [.int (i : Nat), x])) { s with heap := h'', toks := tk + 1 } :=
      I.turnedNew (ch := [e, it]) (fun b o hb q => (sb.2 b (fun z => hb (by rw [z]; simp))).trans (hk b o (fun z => hb (by rw [z]; simp)) (fun z => hb (by rw [z]; simp)) q)) hf (Nat.le_refl _) new
    refine ⟨.ref s.heap.objs.size, _, I1, rfl, ⟨_, x, rfl, I.hok.fresh (Nat.le_refl _), rfl, fun ys hy => by rw [hoB_inj hy hq]; exact hx⟩, ⟨⟨x', ?_⟩, st'.1.move fun o q => (sb.2 it (Ne.symm hne)).trans q, hne⟩, fun b hb => ?_⟩
    · rw [show ((i + 1 : Nat) : Int) = (i : Int) + 1 by omega]; exact he'
    · have hb' : b < s.heap.objs.size := by
        rcases (show b = e ∨ b = it by simpa using hb) with z | z <;> rw [z]
        · exact hel
        · exact hil
      rw [upd_ne (Nat.ne_of_lt hb')]
      exact (hf b hb).1
  done := by
    intro X hP hw hK hc i pins s σ H E I hf st hg
    subst hP hw hK
    obtain ⟨⟨old, he⟩, hit, hne⟩ := st
    obtain ⟨xs, hq, hx⟩ := hg
    obtain ⟨its, rv, ob, hz⟩ := src_ob I hq
    obtain ⟨f0, f1, f2, f3, f4, f5⟩ := hf it (by simp)
    have D := draws_B (prog := X.prog) (w := X.w) (A := X.A.in1) bb (I.ok.hd hc) (hit.apart ob) its.toArray
    have hn : its.toArray.size = i := by rw [List.size_toArray, ← rv.length]; exact hx
    exact wpAny_pyNext_enum_endD D he ⟨by rw [hn]; exact hit, ob⟩ fun h' eb => ⟨rfl, I.turned (t' := s.toks) (fun b o hb q => eb b o hb q) f0 f1 f3 f4 f5⟩
  self := fun A i s Q E st h => let ⟨⟨_, he⟩, _⟩ := st; wpAny_pyIter_enum he h

/-- enumerate(v) with the start left out -/
theorem meets_enum1 {v : Value} {o : Obj} {G : Heap → Prop} (B : Begins v o G) : Meets (Builtin.«enumerate.__new__» ⟨[.type "enumerate", v], []⟩) (fun _ R s => G s.heap ∧
      R (.ok (.ret (.ref (s.heap.push o).objs.size))) { s with heap := (s.heap.push o).push { cls := .type "enumerate", data := .fields #[.none, .bool false, .ref s.heap.objs.size, rawInt 0, .none, .none] } }) :=
  .of_wp fun prog w A R s h => by
    obtain ⟨hp, g, d, tk, os⟩ := s
    obtain ⟨h1, h⟩ := h
    have hsub := sub_enumerate
    have go : ∀ {A' : Around} {E : Value → Shared → Prop} {Q : Value → Shared → Prop}, Q (.ref hp.objs.size) ⟨hp.push o, g, d, tk, os⟩ → wpAny (model prog w) A' (pyIter v) Q E ⟨hp, g, d, tk, os⟩ := fun q => B.iter _ _ _ _ _ _ h1 q
    wp_walk using go
    refine wpAny_stack_any fun st => wpAny_pure ?_
    split
    · rename_i c _ _ _ _ _
      cases (c == Value.type "enumerate") <;> (wp_walk using go; exact ⟨_, rfl, h⟩)
    · (wp_walk using go; exact ⟨_, rfl, h⟩)
theorem call_enum1 {prog : Program} {w : World} {A : Around} {E : Value → Shared → Prop} {s : Shared} {v : Value} {o : Obj} {G : Heap → Prop} {Q : Value → Shared → Prop} (B : Begins v o G) (h1 : G s.heap)
    (h : ∀ h', IsEnum h' (s.heap.objs.size + 1) s.heap.objs.size 0 .none → h'.get? s.heap.objs.size = some o → (∀ b o, s.heap.get? b = some o → h'.get? b = some o) → Q (.ref (s.heap.objs.size + 1)) { s with heap := h' }) :
    wpAny (model prog w) A (call (.type "enumerate") [v]) Q E s := by
  refine callType_new F.called_enumerate (by decide) (F.typeCall_enumerate_1 _) (F.newCall_enumerate_1 _) (fun obj => F.args_object_init_2 obj _) F.entry_enumerate_new (meets_enum1 B) ⟨h1, ?_⟩
  have hz : (s.heap.push o).objs.size = s.heap.objs.size + 1 := Heap.size_push ..
  have he := Heap.get?_push_size (s.heap.push o) (o := { cls := .type "enumerate", data := .fields #[.none, .bool false, .ref s.heap.objs.size, rawInt 0, .none, .none] }) rfl
  show _ ∧ _
  rw [hz] at he ⊢
  exact ⟨⟨_, he, rfl⟩, h _ he (Heap.get?_push_of_some _ (Heap.get?_push_size _ B.free)) fun b o x => Heap.get?_push_of_some _ (Heap.get?_push_of_some _ x)⟩
def iEnumB (bb : Bool) (ta : TA) : TI := fun σ H R => ta σ H fun vs H1 => ∃ a xs, vs = [.ref a] ∧ H1 a = some (hoB bb xs) ∧ R (IteB bb a) H1
theorem pi_enumB {X : Cx} {e : Expr} {ta : TA} {p pos tpos : Pos} {elts : List Expr} {kk : Nat} (bb : Bool) (hg : Gl X "enumerate") (hm : X.mg "enumerate" = none) (ha : PA X [e] ta) (hs : starEach [e] X.env = [(false, eval e X.env)]) :
    PI X (.Tuple elts kk tpos) (.Call (.Name "enumerate" p) [e] [] pos) (iEnumB bb ta) := by
  refine ⟨fun pins s σ H R I h => Call_ (ld_blt I hg hm boot_enumerate (PyProof.Rows.callWith_type1 (thn (ha.run pos pins s σ H _ I h) fun us s1 ⟨vs, H1, I1, r1, a, xs, ex, hq, q⟩ => ?_) hs rfl))⟩
  subst ex
  obtain ⟨u, rfl, r⟩ := Vals.one r1
  cases (show u = Value.ref a from r)
  obtain ⟨its, rv, ob, hz⟩ := src_ob I1 hq
  refine call_enum1 (begins_B bb a its.toArray) ob fun h' he hit hk => wpAny_pyIter_enum he ?_
  have I2 : Inv X pins σ H1 { s1 with heap := h' } := I1.kept (t' := s1.toks) hk
  refine ⟨s1.heap.objs.size + 1, [s1.heap.objs.size + 1, s1.heap.objs.size], _, _, H1, rfl, I2, turn_enumB bb a (s1.heap.objs.size + 1) s1.heap.objs.size, ⟨⟨.none, he⟩, ItB.of_get hit, Nat.succ_ne_self _⟩, fun b hb => ?_, q⟩
  have hle : s1.heap.objs.size ≤ b := by
    rcases (show b = s1.heap.objs.size + 1 ∨ b = s1.heap.objs.size by simpa using hb) with z | z <;> rw [z]
    · exact Nat.le_add_right _ _
    · exact Nat.le_refl _
  exact I1.fpOk hle (I1.hok.fresh hle)

/-! ### zip of two -/
def ItzB (b1 b2 : Bool) (a b : Addr) : It :=
  ⟨fun i H => ∃ (xs ys : List V) (x y : V), H a = some (hoB b1 xs) ∧ H b = some (hoB b2 ys) ∧ xs[i]? = some x ∧ ys[i]? = some y,
    fun i H v H' => ∃ T x y, v = .ref T ∧ H T = none ∧ H' = upd H T (.tup [x, y]) ∧ (∀ xs, H a = some (hoB b1 xs) → xs[i]? = some x) ∧ ∀ ys, H b = some (hoB b2 ys) → ys[i]? = some y,
    fun i H => ∃ xs ys : List V, H a = some (hoB b1 xs) ∧ H b = some (hoB b2 ys) ∧ i ≤ xs.length ∧ i ≤ ys.length ∧ (i = xs.length ∨ i = ys.length)⟩
structure ZAp (z TI TO i1 i2 : Addr) : Prop where
  TIz : TI ≠ z
  TOz : TO ≠ z
  TITO : TI ≠ TO
  TIi1 : TI ≠ i1
  TIi2 : TI ≠ i2
  zi1 : z ≠ i1
  zi2 : z ≠ i2
  Ti1 : TO ≠ i1
  Ti2 : TO ≠ i2
  ii : i1 ≠ i2
theorem turn_zipB {P : Program} {w : World} {K : PySem.W.Frag} {elts : List Expr} {kk : Nat} {tpos : Pos} (b1 b2 : Bool) {a b z TI TO i1 i2 : Addr} (Z : ZAp z TI TO i1 i2) :
    Turn P w K (.Tuple elts kk tpos) (ItzB b1 b2 a b) [z, TI, TO, i1, i2] z (fun i h => IsZip h z TI TO .none ∧ IsTupOf2 h TI (.ref i1) (.ref i2) ∧ (∃ x y, IsTupOf2 h TO x y) ∧ ItB b1 h i1 a i ∧ ItB b2 h i2 b i) where
  mem := List.mem_cons_self
  obj := fun i h st c hc => by
    obtain ⟨hz, hTI, ⟨x, y, hTO⟩, h1, h2⟩ := st
    rcases (show c = z ∨ c = TI ∨ c = TO ∨ c = i1 ∨ c = i2 by simpa using hc) with rfl | rfl | rfl | rfl | rfl
    · exact ⟨_, hz, fun v q => nomatch q⟩
    · exact ⟨_, hTI, fun v q => nomatch q⟩
    · exact ⟨_, hTO, fun v q => nomatch q⟩
    · obtain ⟨o, q1, _, _, q2⟩ := h1.rec'; exact ⟨o, q1, q2⟩
    · obtain ⟨o, q1, _, _, q2⟩ := h2.rec'; exact ⟨o, q1, q2⟩
  keep := fun i h h' st k => by
    obtain ⟨hz, hTI, ⟨x, y, hTO⟩, h1, h2⟩ := st
    exact ⟨k z (by simp) _ hz, k TI (by simp) _ hTI, ⟨x, y, k TO (by simp) _ hTO⟩, h1.move fun o q => k i1 (by simp) o q, h2.move fun o q => k i2 (by simp) o q⟩
  item := by
    intro X hP hw hK hc i pins s σ H E I hf st hg
    subst hP hw hK
    obtain ⟨hz, hTI, ⟨x0, y0, hTO⟩, h1, h2⟩ := st
    obtain ⟨xs, ys, x, y, hqx, hqy, hx, hy⟩ := hg
    obtain ⟨its, rv, ob1, _⟩ := src_ob I hqx
    obtain ⟨its2, rv2, ob2, _⟩ := src_ob I hqy
    obtain ⟨u, hu, ru⟩ := rv.get hx
    obtain ⟨u2, hu2, ru2⟩ := rv2.get hy
    have trk : ∀ {c d : Addr} {bb : Bool} {l : List V}, c ∈ [z, TI, TO, i1, i2] → H d = some (hoB bb l) → c ≠ d := fun hm hd => by
      rintro rfl
      rw [(hf _ hm).1] at hd; cases hd
    have S : ZipSep2 z TI TO i1 i2 [i1, a] [i2, b] := ⟨Z.TIz, Z.TOz, Z.TITO, Z.TIi1, by simp, by simp [Z.zi1, trk (c := z) (by simp) hqx], by simp [Z.Ti1, trk (c := TO) (by simp) hqx], Z.TIi2, by simp, by simp [Z.zi2, trk (c := z) (by simp) hqy], by simp [Z.Ti2, trk (c := TO) (by simp) hqy],
      by simp [Z.ii, trk (c := i1) (by simp) hqy], by simp [Ne.symm Z.ii, trk (c := i2) (by simp) hqx]⟩
    have D1 := draws_B (prog := X.prog) (w := X.w) (A := X.A.in1) b1 (I.ok.hd hc) (Ne.symm (trk (c := i1) (by simp) hqx)) its.toArray
    have D2 := draws_B (prog := X.prog) (w := X.w) (A := X.A.in1) b2 (I.ok.hd hc) (Ne.symm (trk (c := i2) (by simp) hqy)) its2.toArray
    have l1 : i < its.toArray.size := by simpa using (List.getElem?_eq_some_iff.mp hu).1
    have l2 : i < its2.toArray.size := by simpa using (List.getElem?_eq_some_iff.mp hu2).1
    have hzl : z < s.heap.objs.size := Heap.lt_size hz
    refine wpAny_pyNext_zipD2_item S D1 D2 hz hTI hTO ⟨h1, ob1⟩ ⟨h2, ob2⟩ l1 l2 fun x' y' h' tk q1 q2 z' TO' h1' h2' hT hsz hk => ?_
    have ex : x' = u := by
      have q : its.toArray[i]? = some x' := q1
      rw [show its.toArray[i]? = some u by simpa using hu] at q
      exact (Option.some.inj q).symm
    have ey : y' = u2 := by
      have q : its2.toArray[i]? = some y' := q2
      rw [show its2.toArray[i]? = some u2 by simpa using hu2] at q
      exact (Option.some.inj q).symm
    subst ex ey
    refine ⟨_, rfl, wpAny_letOwnedTupleGo_zip (s := { s with heap := h', toks := tk }) z' fun h'' z'' sb => ?_⟩
    have hT2 : h''.get? s.heap.objs.size = some { cls := .type "tuple", data := .seq #[x', y'] } := (sb.2 _ (Nat.ne_of_gt hzl)).trans hT
    have new : ObjOk X.prog X.w (upd H s.heap.objs.size (.tup [x, y])) h'' s.heap.objs.size (.tup [x, y]) := ⟨(show 2 ≤ sizeLine by decide), [x', y'], .cons ru (.cons ru2 .nil), ⟨_, hT2, rfl, _, rfl⟩⟩
    have I1 : Inv X pins σ (upd H s.heap.objs.size (.tup [x, y])) { s with heap := h'', toks := tk } :=
      I.turnedNew (ch := [z, TI, TO, i1, i2]) (fun c o hb q => (sb.2 c (fun r => hb (by rw [r]; simp))).trans (hk c o (fun r => hb (by rw [r]; simp)) (fun r => hb (by rw [r]; simp)) (fun r => hb (by rw [r]; simp)) (fun r => hb (by rw [r]; simp)) q)) hf (Nat.le_refl _) new
    refine ⟨.ref s.heap.objs.size, _, I1, rfl, ⟨_, x, y, rfl, I.hok.fresh (Nat.le_refl _), rfl, fun l hl => by rw [hoB_inj hl hqx]; exact hx, fun l hl => by rw [hoB_inj hl hqy]; exact hy⟩,
      ⟨z'', (sb.2 _ Z.TIz).trans (hk _ _ Z.TIz Z.TITO Z.TIi1 Z.TIi2 hTI), ⟨x', y', (sb.2 _ Z.TOz).trans TO'⟩, h1'.1.move fun o q => (sb.2 _ (Ne.symm Z.zi1)).trans q, h2'.1.move fun o q => (sb.2 _ (Ne.symm Z.zi2)).trans q⟩, fun c hcm => ?_⟩
    have hlt : c < s.heap.objs.size := by
      rcases (show c = z ∨ c = TI ∨ c = TO ∨ c = i1 ∨ c = i2 by simpa using hcm) with q | q | q | q | q <;> rw [q]
      · exact hzl
      · exact Heap.lt_size hTI
      · exact Heap.lt_size hTO
      · exact let ⟨_, e1, _⟩ := h1.rec'; Heap.lt_size e1
      · exact let ⟨_, e1, _⟩ := h2.rec'; Heap.lt_size e1
    rw [upd_ne (Nat.ne_of_lt hlt)]
    exact (hf c hcm).1
  done := by
    intro X hP hw hK hc i pins s σ H E I hf st hg
    subst hP hw hK
    obtain ⟨hz, hTI, ⟨x0, y0, hTO⟩, h1, h2⟩ := st
    obtain ⟨xs, ys, hqx, hqy, le1, le2, hend⟩ := hg
    obtain ⟨its, rv, ob1, _⟩ := src_ob I hqx
    obtain ⟨its2, rv2, ob2, _⟩ := src_ob I hqy
    have trk : ∀ {c d : Addr} {bb : Bool} {l : List V}, c ∈ [z, TI, TO, i1, i2] → H d = some (hoB bb l) → c ≠ d := fun hm hd => by
      rintro rfl
      rw [(hf _ hm).1] at hd; cases hd
    have S : ZipSep2 z TI TO i1 i2 [i1, a] [i2, b] := ⟨Z.TIz, Z.TOz, Z.TITO, Z.TIi1, by simp, by simp [Z.zi1, trk (c := z) (by simp) hqx], by simp [Z.Ti1, trk (c := TO) (by simp) hqx], Z.TIi2, by simp, by simp [Z.zi2, trk (c := z) (by simp) hqy], by simp [Z.Ti2, trk (c := TO) (by simp) hqy],
      by simp [Z.ii, trk (c := i1) (by simp) hqy], by simp [Ne.symm Z.ii, trk (c := i2) (by simp) hqx]⟩
    have D1 := draws_B (prog := X.prog) (w := X.w) (A := X.A.in1) b1 (I.ok.hd hc) (Ne.symm (trk (c := i1) (by simp) hqx)) its.toArray
    have D2 := draws_B (prog := X.prog) (w := X.w) (A := X.A.in1) b2 (I.ok.hd hc) (Ne.symm (trk (c := i2) (by simp) hqy)) its2.toArray
    have e1 := rv.length
    have e2 := rv2.length
    exact wpAny_pyNext_zipD2_end S D1 D2 hz hTI hTO ⟨h1, ob1⟩ ⟨h2, ob2⟩ (by simp; omega) (by simp; omega) (by simp; omega) fun h' tk hk => ⟨rfl, I.turnedL (ch := [z, TI, TO, i1, i2]) (fun c o hb q =>
      hk c o (fun r => hb (by rw [r]; simp)) (fun r => hb (by rw [r]; simp)) (fun r => hb (by rw [r]; simp)) (fun r => hb (by rw [r]; simp)) q) hf⟩
  self := fun A i s Q E st h => wpAny_pyIter_zip st.1 h
def iZipB (b1 b2 : Bool) (ta : TA) : TI := fun σ H R => ta σ H fun vs H1 => ∃ a b xs ys, vs = [.ref a, .ref b] ∧ H1 a = some (hoB b1 xs) ∧ H1 b = some (hoB b2 ys) ∧ R (ItzB b1 b2 a b) H1
theorem pi_zipB {X : Cx} {e e2 : Expr} {ta : TA} {p pos tpos : Pos} {elts : List Expr} {kk : Nat} (b1 b2 : Bool) (hg : Gl X "zip") (hm : X.mg "zip" = none) (ha : PA X [e, e2] ta)
    (hs : starEach [e, e2] X.env = (false, eval e X.env) :: starEach [e2] X.env) (hpl : (backTo pos (starEach [e2] X.env)).any (·.1) = false) : PI X (.Tuple elts kk tpos) (.Call (.Name "zip" p) [e, e2] [] pos) (iZipB b1 b2 ta) := by
  refine ⟨fun pins s σ H R I h => Call_ (ld_blt I hg hm PyProof.Rows.boot_zip (PyProof.Rows.callWith_type1 (thn (ha.run pos pins s σ H _ I h) fun us s1 ⟨vs, H1, I1, r1, a, b, xs, ys, ex, hqx, hqy, q⟩ => ?_) hs hpl))⟩
  subst ex
  obtain ⟨u, v, rfl, r, r'⟩ := Vals.two r1
  cases (show u = Value.ref a from r)
  cases (show v = Value.ref b from r')
  obtain ⟨its, rv, ob1, _⟩ := src_ob I1 hqx
  obtain ⟨its2, rv2, ob2, _⟩ := src_ob I1 hqy
  refine zip_begins2 (begins_B b1 a its.toArray) (begins_B b2 b its2.toArray) ob1 ob2 fun h' hz hTI hTO h1 h2 hsz hk => wpAny_pyIter_zip hz ?_
  have I2 : Inv X pins σ H1 { s1 with heap := h' } := I1.kept (t' := s1.toks) hk
  have nes : ∀ m n : Nat, m ≠ n → s1.heap.objs.size + m ≠ s1.heap.objs.size + n := fun m n h q => h (Nat.add_left_cancel q)
  refine ⟨s1.heap.objs.size + 4, [s1.heap.objs.size + 4, s1.heap.objs.size + 2, s1.heap.objs.size + 3, s1.heap.objs.size, s1.heap.objs.size + 1], _, _, H1, rfl, I2,
    turn_zipB b1 b2 ⟨nes 2 4 (by decide), nes 3 4 (by decide), nes 2 3 (by decide), nes 2 0 (by decide), nes 2 1 (by decide), nes 4 0 (by decide), nes 4 1 (by decide), nes 3 0 (by decide), nes 3 1 (by decide), nes 0 1 (by decide)⟩,
    ⟨hz, hTI, ⟨_, _, hTO⟩, ItB.of_get h1, ItB.of_get h2⟩, fun c hcm => ?_, q⟩
  have hle : s1.heap.objs.size ≤ c := by
    rcases (show c = s1.heap.objs.size + 4 ∨ c = s1.heap.objs.size + 2 ∨ c = s1.heap.objs.size + 3 ∨ c = s1.heap.objs.size ∨ c = s1.heap.objs.size + 1 by simpa using hcm) with z | z | z | z | z <;> rw [z] <;> first | exact Nat.le_add_right _ _ | exact Nat.le_refl _
  exact I1.fpOk hle (I1.hok.fresh hle)

/-! ### over the shapes -/
section
variable {c : Cc} {Γ : En} {ω ω1 ω2 : Ws} {a b : Expr} {α β : Type} {Rs : α → Sh} {Rt' : β → Sh} {xs : List α} {ys : List β} {bb b1 b2 : Bool} {pos p tpos : Pos} {elts : List Expr} {kk : Nat}
theorem sq_ho {B : Hp} {v : V} (h : (Sq bb Rs xs).p B v) : ∃ a vs, v = .ref a ∧ B a = some (hoB bb vs) ∧ All2 (fun v x => (Rs x).p B v) vs xs := h
theorem i_enum (h : DE c Γ ω a (Sq bb Rs xs) ω1) (hm : c.M.mg "enumerate" = none) (hg : Glo c.sc "enumerate" := by exact rfl) (he : ∀ env, starEach [a] env = [(false, eval a env)] := by intro _; rfl) :
    DI c Γ ω (.Tuple elts kk tpos) (.Call (.Name "enumerate" p) [a] [] pos) xs.length (fun i (y : Int × α) => y.1 = (i : Int) ∧ xs[i]? = some y.2) (fun y => U [I y.1, Rs y.2]) ω1 := by
  intro X fx F σ B H hE hO R hR
  refine tI.of (pi_enumB bb (gl_of fx hg) (by rw [fx.mg]; exact hm) pa_w (he _)) ?_
  refine a_cons h a_nil (by intro env; rw [he]; rfl) X fx F σ B H hE hO _ fun vs B1 H1 e1 O1 p1 => ?_
  obtain ⟨v, rfl, hv⟩ := all1 p1
  obtain ⟨a1, us, rfl, g0, g2⟩ := sq_ho hv
  refine ⟨a1, us, rfl, O1.ex _ _ g0, hR _ B1 H1 e1 O1 fun B2 H2 e2 e3 => ?_⟩
  have G : H2 a1 = some (hoB bb us) := e3 _ _ (e2 _ _ g0)
  have hl := g2.len
  refine ⟨fun i hi => ⟨us, us[i]'(by omega), G, by simp [show i < us.length by omega]⟩, ⟨us, G, hl⟩, fun i hi x H3 y => ?_⟩
  obtain ⟨T, z, rfl, hT, rfl, hz⟩ := y
  obtain ⟨y, q1, q2⟩ := g2.get' (hz us G)
  refine ⟨((i : Int), y), ⟨rfl, q1⟩, .inr ⟨T, _, hT, rfl, fun hB => ?_⟩⟩
  have e4 : Ex B2 (upd B2 T (.tup [.int (i : Nat), z])) := Ex.new hB
  exact ⟨T, _, rfl, upd_same, .cons rfl (.cons ((Rs y).mono (e2.trans e4) q2) .nil)⟩
theorem i_zip (h : DE c Γ ω a (Sq b1 Rs xs) ω1) (h' : DE c Γ ω1 b (Sq b2 Rt' ys) ω2) (hm : c.M.mg "zip" = none) (hg : Glo c.sc "zip" := by exact rfl) (he : ∀ env, starEach [a, b] env = (false, eval a env) :: starEach [b] env := by intro _; rfl) (he2 : ∀ env, starEach [b] env = (false, eval b env) :: starEach [] env := by intro _; rfl)
    (hpl : ∀ env, (backTo pos (starEach [b] env)).any (·.1) = false := by intro _; rfl) :
    DI c Γ ω (.Tuple elts kk tpos) (.Call (.Name "zip" p) [a, b] [] pos) (min xs.length ys.length) (fun i (y : α × β) => xs[i]? = some y.1 ∧ ys[i]? = some y.2) (fun y => U [Rs y.1, Rt' y.2]) ω2 := by
  intro X fx F σ B H hE hO R hR
  refine tI.of (pi_zipB b1 b2 (gl_of fx hg) (by rw [fx.mg]; exact hm) pa_w (he _) (hpl _)) ?_
  refine a_cons h (a_cons h' a_nil he2) he X fx F σ B H hE hO _ fun vs B1 H1 e1 O1 p1 => ?_
  obtain ⟨v, u, rfl, hv, hu⟩ := all2 p1
  obtain ⟨a1, us, rfl, g0, g2⟩ := sq_ho hv
  obtain ⟨a2, ws, rfl, k0, k2⟩ := sq_ho hu
  refine ⟨a1, a2, us, ws, rfl, O1.ex _ _ g0, O1.ex _ _ k0, hR _ B1 H1 e1 O1 fun B2 H2 e2 e3 => ?_⟩
  have G : H2 a1 = some (hoB b1 us) := e3 _ _ (e2 _ _ g0)
  have G2 : H2 a2 = some (hoB b2 ws) := e3 _ _ (e2 _ _ k0)
  have hl := g2.len
  have hl2 := k2.len
  refine ⟨fun i hi => ⟨us, ws, us[i]'(by omega), ws[i]'(by omega), G, G2, by simp [show i < us.length by omega], by simp [show i < ws.length by omega]⟩, ⟨us, ws, G, G2, by omega, by omega, by omega⟩, fun i hi x H3 y => ?_⟩
  obtain ⟨T, z, z2, rfl, hT, rfl, hz, hz2⟩ := y
  obtain ⟨y, q1, q2⟩ := g2.get' (hz us G)
  obtain ⟨y2, r1, r2⟩ := k2.get' (hz2 ws G2)
  refine ⟨(y, y2), ⟨q1, r1⟩, .inr ⟨T, _, hT, rfl, fun hB => ?_⟩⟩
  have e4 : Ex B2 (upd B2 T (.tup [z, z2])) := Ex.new hB
  exact ⟨T, _, rfl, upd_same, .cons ((Rs y).mono (e2.trans e4) q2) (.cons ((Rt' y2).mono (e2.trans e4) r2) .nil)⟩
end
end ZZ

set_option maxHeartbeats 2000000
/-! Z6: list comprehensions with one for. -/
namespace ZZ
open PySem PySem.Spec PyProof.Rows L2
open Evl (Ex)

theorem wipe_mem {σ : L2.St} {i : Nat} : ∀ {vs : List Nat}, i ∈ vs → i < σ.length → (wipe σ vs)[i]? = some none
  | [], h, _ => by cases h
  | v :: vs, h, hl => by
    unfold wipe
    by_cases e : v = i
    · subst e
      rw [List.getElem?_set_self (by rw [wipe_length]; exact hl)]
    · rw [List.getElem?_set_ne e]
      exact wipe_mem ((List.mem_cons.mp h).resolve_left fun z => e z.symm) hl
theorem wipe_not {σ : L2.St} {i : Nat} : ∀ {vs : List Nat}, i ∉ vs → (wipe σ vs)[i]? = σ[i]?
  | [], _ => rfl
  | v :: vs, h => by
    unfold wipe
    rw [List.getElem?_set_ne (fun e => h (by rw [e]; exact List.mem_cons_self))]
    exact wipe_not fun z => h (List.mem_cons_of_mem _ z)
theorem EnvOk.len : ∀ {Γ : En} {σ : L2.St} {B : Hp}, EnvOk Γ σ B → σ.length = Γ.length
  | [], [], _, _ => rfl
  | (_, none) :: Γ, _ :: σ, _, h => by simp [EnvOk.len (Γ := Γ) (σ := σ) h]
  | (_, some _) :: Γ, _ :: σ, _, h => by simp [EnvOk.len (Γ := Γ) (σ := σ) h.2]
  | [], _ :: _, _, h => h.elim
  | (_, none) :: _, [], _, h => h.elim
  | (_, some _) :: _, [], _, h => h.elim
theorem Put.wipe1 : ∀ {Γ Γ' : En} {x : Str}, Put Γ x none Γ' → ∃ i : Nat, (Γ.map (·.1))[i]? = some x ∧ ∀ (σ : L2.St) (B : Hp), EnvOk Γ σ B → EnvOk Γ' (σ.set i none) B
  | _, _, _, .z (Γ := Γ) (x := x) (o := o) => by
    refine ⟨0, rfl, fun σ B h => ?_⟩
    cases σ with
    | nil => cases o <;> exact h.elim
    | cons a σ =>
      cases o with
      | none => exact h
      | some T => exact h.2
  | _, _, _, .s (e := e) hp => by
    obtain ⟨i, h1, h2⟩ := Put.wipe1 hp
    refine ⟨i + 1, by simpa using h1, fun σ B h => ?_⟩
    obtain ⟨y, o⟩ := e
    cases σ with
    | nil => cases o <;> exact h.elim
    | cons a σ =>
      cases o with
      | none => exact h2 σ B h
      | some T => exact ⟨h.1, h2 σ B h.2⟩
/-- the comprehension's own names are forgotten -/
inductive Wip : En → List (Str × Nat) → En → Prop
  | nil {Γ} : Wip Γ [] Γ
  | cons {Γ Γ1 Γ2 own x i} : Wip Γ own Γ1 → Put Γ1 x none Γ2 → Wip Γ ((x, i) :: own) Γ2
theorem Wip.names : ∀ {Γ Γ' : En} {own : List (Str × Nat)}, Wip Γ own Γ' → Γ'.map (·.1) = Γ.map (·.1)
  | _, _, _, .nil => rfl
  | _, _, _, .cons w p => p.names.trans w.names
theorem Wip.env {N : List Str} (nd : N.Nodup) : ∀ {Γ Γ' : En} {own : List (Str × Nat)} {σ : L2.St} {B : Hp}, Wip Γ own Γ' → Γ.map (·.1) = N → (∀ p ∈ own, N[p.2]? = some p.1) → EnvOk Γ σ B → EnvOk Γ' (wipe σ (own.map (·.2))) B
  | _, _, _, _, _, .nil, _, _, h => h
  | _, _, _, _, _, .cons (x := x) (i := i) w p, hN, ix, h => by
    have ih := w.env nd hN (fun q hq => ix q (List.mem_cons_of_mem _ hq)) h
    obtain ⟨j, h1, h2⟩ := p.wipe1
    have e : j = i := nodup_ix nd (by rw [← hN, ← w.names]; exact h1) (ix _ List.mem_cons_self)
    subst e
    exact h2 _ _ ih
theorem wipe_only {N ns : List Str} {own : List (Str × Nat)} {σ σ2 : L2.St} (nd : N.Nodup) (hl : σ.length = N.length) (ix : ∀ p ∈ own, N[p.2]? = some p.1) (hs : ∀ x ∈ ns, x ∈ own.map (·.1)) (o : Only N ns (wipe σ (own.map (·.2))) σ2) :
    wipe σ2 (own.map (·.2)) = wipe σ (own.map (·.2)) := by
  have l2 : σ2.length = σ.length := by rw [o.1, wipe_length]
  refine List.ext_getElem? fun i => ?_
  by_cases hi : i < σ.length
  · by_cases hm : i ∈ own.map (·.2)
    · rw [wipe_mem hm hi, wipe_mem hm (by omega)]
    · rw [wipe_not hm, o.2 i N[i] (List.getElem?_eq_getElem (by omega)) fun hx => ?_]
      obtain ⟨⟨y, j⟩, hp, e⟩ := List.mem_map.mp (hs _ hx)
      have q := ix _ hp
      have e : y = N[i] := e
      rw [e] at q
      have : j = i := nodup_ix nd q (List.getElem?_eq_getElem (by omega))
      subst this
      exact hm (List.mem_map.mpr ⟨_, hp, rfl⟩)
  · rw [List.getElem?_eq_none (by rw [wipe_length]; omega), List.getElem?_eq_none (by rw [wipe_length]; omega)]
theorem Fits.blk {c : Cc} [Cold c] {N : List Str} {X : Cx} (fx : Fits c N X) (s : Shared) (H : Hp) (scope : Scope) (C : Addr) (cl : List (Str × Addr)) (fp : List Addr) : Fits ⟨c.M, relS scope c.sc, c.k, false, false⟩ N (X.blk s H scope (compEnvC scope cl C X.env) fp) :=
  ⟨fx.prog, fx.w, fx.K, fx.mg, fx.base, (by show relS scope X.env.scope = _; rw [fx.sc]), fx.ns, fx.nd, fun _ => fx.calm, fun _ => fx.room, fx.roomH, (fun h => nomatch h), (fun h => nomatch h), PassesOwn.never⟩
/-- a new list of which something is known -/
def DNE {α : Type} (c : Cc) (Γ : En) (ω : Ws) (e : Expr) (P : List α → Prop) (R : α → Sh) (ω' : Ws) : Prop :=
  ∀ X, Fits c (Γ.map (·.1)) X → ∀ F σ B H, EnvOk Γ σ B → Own F ω B H → ∀ Q : VK, (∀ l ys B' H', P ys → Ex B B' → Own F (ω' ++ [(l, Cl R ys)]) B' H' → Q (.ref l) H') → tW X e σ H Q
theorem DNE.dn {α : Type} {c : Cc} {Γ : En} {ω ω' : Ws} {e : Expr} {R : α → Sh} {xs : List α} (h : DNE c Γ ω e (· = xs) R ω') : DN c Γ ω e R xs ω' := fun X fx F σ B H hE hO Q hQ =>
  h X fx F σ B H hE hO Q fun l ys B' H' e => by subst e; exact hQ l B' H'
theorem DNE.frz {α : Type} {c : Cc} {Γ : En} {ω ω' : Ws} {e : Expr} {R : α → Sh} {P : List α → Prop} (h : DNE c Γ ω e P R ω') : DE c Γ ω e (Es P (L R)) ω' := fun X fx F σ B H hE hO Q hQ =>
  h X fx F σ B H hE hO Q fun l ys B' H' hy e1 O1 => by
    obtain ⟨o, h1, ⟨vs, rfl, h3⟩, O2, e2⟩ := O1.freeze tak_last
    exact hQ _ _ _ (e1.trans e2) O2 ⟨ys, hy, l, vs, rfl, upd_same, h3.mp fun _ s q => (R s).mono e2 q⟩
theorem swp_last {ω : Ws} {l : Addr} {C C' : Co} : Swp (ω ++ [(l, C)]) l C C' (ω ++ [(l, C')]) := by
  induction ω with
  | nil => exact .z
  | cons e ω ih => exact .s ih
def gBlk (X : Cx) (scope : Scope) (tg : Expr) : TG := fun v σ H Q => ∀ s H0 C cl fp, tG (X.blk s H0 scope (compEnvC scope cl C X.env) fp) tg v σ H Q
def eBlk (X : Cx) (scope : Scope) (e : Expr) : TE := fun σ H Q => ∀ s H0 C cl fp, tW (X.blk s H0 scope (compEnvC scope cl C X.env) fp) e σ H Q
def cBlk (X : Cx) (scope : Scope) (ifs : List Expr) : TT := match ifs with
  | [t] => fun σ H Q => ∀ s H0 C cl fp, tT (X.blk s H0 scope (compEnvC scope cl C X.env) fp) t σ H Q
  | _ => tYes
/-- one test, or none -/
def DC (c : Cc) (Γ : En) (ω : Ws) (ifs : List Expr) (R : Bool → Prop) : Prop := match ifs with
  | [] => R true
  | [t] => DT c Γ ω t R ω
  | _ => False
section
variable {c : Cc} {Γ Γw : En} {ω ω1 : Ws} {tg it elt : Expr} {ifs : List Expr} {scope : Scope} {own : List (Str × Nat)} {α β : Type} {W : Nat → β → Prop} {Rb : β → Sh} {R : α → Sh} {n : Nat} {pos : Pos} {J : Nat → List α → Prop}
theorem lc_core' [Cold c] {X : Cx} {F : Hp} {σ : L2.St} {B H : Hp} (fx : Fits c (Γ.map (·.1)) X) (hE : EnvOk Γ σ B) (hO : Own F ω B H) (ok : BlkOk (Γ.map (·.1)) c.sc scope own) (hw : Wip Γ own Γw) (hi : DI c Γ ω tg it n W Rb ω1) (h0 : J 0 []) (hz : n < sizeLine) (hi1 : ifs = [] ∨ ∃ t, ifs = [t])
    (hb : ∀ i y ys, i < n → W i y → J i ys → ∃ Γb ns Rt', DG ⟨c.M, relS scope c.sc, c.k, false, false⟩ tg ns (Rb y) Γw Γb ∧ (∀ x ∈ ns, x ∈ own.map (·.1)) ∧ DC ⟨c.M, relS scope c.sc, c.k, false, false⟩ Γb ω1 ifs Rt' ∧
      (Rt' true → DE ⟨c.M, relS scope c.sc, c.k, false, false⟩ Γb ω1 elt (Es (fun z => J (i + 1) (ys ++ [z])) R) ω1) ∧ (Rt' false → J (i + 1) ys))
    {Q : VK} (hQ : ∀ l ys B' H', J n ys → Ex B B' → Own F (ω1 ++ [(l, Cl R ys)]) B' H' → Q (.ref l) H') :
    tLc (tI X tg it) (gBlk X scope tg) (cBlk X scope ifs) (eBlk X scope elt) (own.map (·.2)) σ H Q := by
  refine hi X fx F σ B H hE hO _ fun It B1 H1 e1 O1 hit D hD => ?_
  have hl : σ.length = (Γ.map (·.1)).length := by rw [hE.len, List.length_map]
  refine ⟨fun i m H' => m = n - i ∧ i ≤ n ∧ ∃ ys B', ys.length ≤ i ∧ J i ys ∧ Ex B1 B' ∧ Own F (ω1 ++ [(D, Cl R ys)]) B' H', ⟨n, by simp, Nat.zero_le _, [], B1, Nat.le_refl _, h0, Ex.refl B1, O1.add hD (C := Cl R []) ⟨[], rfl, .nil⟩⟩, ?_⟩
  rintro i m H2 ⟨rfl, hin, ys, B2, hys, hJ, e2, O2⟩
  obtain ⟨q1, q2, q3⟩ := hit B2 H2 e2 O2.ex
  by_cases hlt : i < n
  · refine .inr ⟨q1 i hlt, fun H' => ∃ ys B', ys.length ≤ i + 1 ∧ J (i + 1) ys ∧ Ex B1 B' ∧ Own F (ω1 ++ [(D, Cl R ys)]) B' H', fun H' q => ⟨n - (i + 1), by omega, rfl, hlt, q⟩, fun x H3 yl => ?_⟩
    obtain ⟨y, hy, q⟩ := q3 i hlt x H3 yl
    obtain ⟨Γb, ns, Rt', hg, hs, hc, he, hf⟩ := hb i y ys hlt hy hJ
    have hEw : EnvOk Γw (wipe σ (own.map (·.2))) B2 := (hw.env fx.nd rfl ok.ix hE).mono (e1.trans e2)
    have fx' := fx.re hw.names
    -- behind the yield
    obtain ⟨B3, e3, O3, hx⟩ : ∃ B3, Ex B2 B3 ∧ Own F (ω1 ++ [(D, Cl R ys)]) B3 H3 ∧ (Rb y).p B3 x := by
      rcases q with ⟨rfl, q⟩ | ⟨T, o, hT, rfl, q⟩
      · exact ⟨B2, Ex.refl B2, O2, q⟩
      · obtain ⟨O4, e4⟩ := O2.new (o := o) hT
        exact ⟨_, e4, O4, q (O2.none_of hT).1⟩
    intro s H0 C cl fp
    refine hg.2 _ (fx'.blk s H0 scope C cl fp) _ B3 H3 x (hEw.mono e3) O3.ex hx _ fun σ2 hE2 on => ⟨wipe_only fx.nd hl ok.ix hs (by rw [hw.names] at on; exact on), ?_⟩
    have fxb : ∀ s H0 C cl fp, Fits ⟨c.M, relS scope c.sc, c.k, false, false⟩ (Γb.map (·.1)) (X.blk s H0 scope (compEnvC scope cl C X.env) fp) := fun s H0 C cl fp => (fx'.blk s H0 scope C cl fp).re hg.1
    -- the test, then the element
    have go : ∀ b B4 H4, Ex B3 B4 → Own F (ω1 ++ [(D, Cl R ys)]) B4 H4 → Rt' b → if b = true then eBlk X scope elt σ2 H4 fun y H5 => ∃ acc, H5 D = some (.lst acc) ∧ acc.length < sizeLine ∧ ∃ ys B', ys.length ≤ i + 1 ∧ J (i + 1) ys ∧ Ex B1 B' ∧ Own F (ω1 ++ [(D, Cl R ys)]) B' (upd H5 D (.lst (acc ++ [y])))
        else ∃ ys B', ys.length ≤ i + 1 ∧ J (i + 1) ys ∧ Ex B1 B' ∧ Own F (ω1 ++ [(D, Cl R ys)]) B' H4 := fun b B4 H4 e4 O4 hr => by
      cases b with
      | false => exact ⟨ys, B4, by omega, hf hr, (e2.trans e3).trans e4, O4⟩
      | true =>
        show eBlk X scope elt σ2 H4 _
        intro s H0 C cl fp
        refine he hr _ (fxb s H0 C cl fp) _ σ2 B4 H4 (hE2.mono e4) O4.focus _ fun v B5 H5 e5 O5 hv => ?_
        obtain ⟨z, hz', hv⟩ := hv
        have O6 := O4.unfocus e5 O5 rfl
        obtain ⟨_, _, o, h2, us, rfl, h3⟩ := O6.ow _ _ (List.mem_append_right _ List.mem_cons_self)
        refine ⟨us, h2, by rw [h3.len]; omega, ys ++ [z], B5, by simp; omega, hz', ((e2.trans e3).trans e4).trans e5, O6.swp swp_last ⟨_, rfl, h3.append (.cons hv .nil)⟩⟩
    rcases hi1 with rfl | ⟨t, rfl⟩
    · exact go true B3 H3 (Ex.refl B3) O3 hc
    · intro s H0 C cl fp
      refine DT.run_ hc (fxb s H0 C cl fp) hE2 O3.focus fun b B4 H4 e4 O4 hr => ?_
      exact go b B4 H4 e4 (O3.unfocus e4 O4 rfl) hr
  · have e : i = n := by omega
    subst e
    exact .inl ⟨q2, hQ D ys B2 H2 hJ (e1.trans e2) O2⟩
where
  DT.run_ {c : Cc} {Γ : En} {ω : Ws} {t : Expr} {R : Bool → Prop} (h : DT c Γ ω t R ω) {X : Cx} (fx : Fits c (Γ.map (·.1)) X) {F : Hp} {σ : L2.St} {B H : Hp} (hE : EnvOk Γ σ B) (hO : Own F ω B H) {Q : Bool → Hp → Prop} (hQ : ∀ b B' H', Ex B B' → Own F ω B' H' → R b → Q b H') : tT X t σ H Q := h X fx F σ B H hE hO Q hQ
theorem pts_blk {X : Cx} (hi1 : ifs = [] ∨ ∃ t, ifs = [t]) (s : Shared) (H0 : Hp) (C : Addr) (cl : List (Str × Addr)) (fp : List Addr) : PTs (X.blk s H0 scope (compEnvC scope cl C X.env) fp) ifs (cBlk X scope ifs) := by
  rcases hi1 with rfl | ⟨t, rfl⟩
  · exact pts_nil
  · exact pts_one ⟨fun pins s' σ H Q I h => h s H0 C cl fp pins s' I⟩
theorem n_lc [Cold c] (ok : BlkOk (Γ.map (·.1)) c.sc scope own) (hw : Wip Γ own Γw) (hi : DI c Γ ω tg it n W Rb ω1) (J : Nat → List α → Prop) (h0 : J 0 []) (hz : n < sizeLine) (hi1 : ifs = [] ∨ ∃ t, ifs = [t])
    (hb : ∀ i y ys, i < n → W i y → J i ys → ∃ Γb ns Rt', DG ⟨c.M, relS scope c.sc, c.k, false, false⟩ tg ns (Rb y) Γw Γb ∧ (∀ x ∈ ns, x ∈ own.map (·.1)) ∧ DC ⟨c.M, relS scope c.sc, c.k, false, false⟩ Γb ω1 ifs Rt' ∧
      (Rt' true → DE ⟨c.M, relS scope c.sc, c.k, false, false⟩ Γb ω1 elt (Es (fun z => J (i + 1) (ys ++ [z])) R) ω1) ∧ (Rt' false → J (i + 1) ys))
    (hs : ∀ env x, foldedSetIterable it env x = pure x := by intro _ _; rfl) : DNE c Γ ω (.ListComp elt [⟨tg, it, ifs, 0⟩] scope pos) (J n) R ω1 := by
  intro X fx F σ B H hE hO Q hQ
  refine tW.of (pe_lc (own := own) fx.calm (by rw [fx.ns]; exact fx.nd) pi_w (by rw [fx.ns, fx.sc]; exact ok) (g := gBlk X scope tg) (te := eBlk X scope elt) (fun s H0 C cl fp => ⟨fun pins s' σ H v u Q I r h => h s H0 C cl fp pins s' u I r⟩) (fun s H0 C cl fp => pts_blk hi1 s H0 C cl fp)
    (fun s H0 C cl fp => ⟨fun pins s' σ H Q I h => h s H0 C cl fp pins s' I⟩) (hs _)) ?_
  exact lc_core' fx hE hO ok hw hi h0 hz hi1 hb hQ
/-- [f(x) for x in ..]: what stands at each place is known -/
theorem n_lcM [Cold c] (ok : BlkOk (Γ.map (·.1)) c.sc scope own) (hw : Wip Γ own Γw) (hi : DI c Γ ω tg it n W Rb ω1) (zs : List α) (hn : zs.length = n) (hz : n < sizeLine)
    (hb : ∀ i y z, W i y → zs[i]? = some z → ∃ Γb ns, DG ⟨c.M, relS scope c.sc, c.k, false, false⟩ tg ns (Rb y) Γw Γb ∧ (∀ x ∈ ns, x ∈ own.map (·.1)) ∧ DE ⟨c.M, relS scope c.sc, c.k, false, false⟩ Γb ω1 elt (R z) ω1)
    (hs : ∀ env x, foldedSetIterable it env x = pure x := by intro _ _; rfl) : DN c Γ ω (.ListComp elt [⟨tg, it, [], 0⟩] scope pos) R zs ω1 := by
  refine DNE.dn ?_
  have h := n_lc (R := R) (pos := pos) (ifs := []) (elt := elt) ok hw hi (fun i ys => ys = zs.take i) (by simp) hz (.inl rfl) (fun i y ys hi hy hJ => ?_) hs
  · have e : (fun ys : List α => ys = zs.take n) = (· = zs) := by
      funext ys
      rw [List.take_of_length_le (by omega)]
    rw [e] at h
    exact h
  · have hz : zs[i]? = some zs[i] := List.getElem?_eq_getElem (by omega)
    obtain ⟨Γb, ns, hg, hs, he⟩ := hb i y _ hy hz
    refine ⟨Γb, ns, (· = true), hg, hs, rfl, fun _ => he.wide fun B v q => ⟨zs[i], ?_, q⟩, fun z => nomatch z⟩
    rw [hJ, List.take_add_one, hz]
    rfl
end
/-! ### y = [..] on one line -/
section
variable {c : Cc} {X : Cx} {B0 F : Hp} {D : Ends} {Γ Γw Γ0 : En} {ω ω1 : Ws} {tg it elt : Expr} {ifs : List Expr} {scope : Scope} {own : List (Str × Nat)} {α β : Type} {W : Nat → β → Prop} {Rb : β → Sh} {R : α → Sh} {n : Nat} {pos spos py : Pos} {y : Str} {rest : List Stmt}
theorem ds_lc [Cold c] (ok : BlkOk (Γ.map (·.1)) c.sc scope own) (hw : Wip Γ own Γw) (hi : DI c Γ ω tg it n W Rb ω1) (J : Nat → List α → Prop) (h0 : J 0 []) (hz : n < sizeLine) (hi1 : ifs = [] ∨ ∃ t, ifs = [t])
    (hb : ∀ i y ys, i < n → W i y → J i ys → ∃ Γb ns Rt', DG ⟨c.M, relS scope c.sc, c.k, false, false⟩ tg ns (Rb y) Γw Γb ∧ (∀ x ∈ ns, x ∈ own.map (·.1)) ∧ DC ⟨c.M, relS scope c.sc, c.k, false, false⟩ Γb ω1 ifs Rt' ∧
      (Rt' true → DE ⟨c.M, relS scope c.sc, c.k, false, false⟩ Γb ω1 elt (Es (fun z => J (i + 1) (ys ++ [z])) R) ω1) ∧ (Rt' false → J (i + 1) ys))
    (hp : Put Γ y none Γ0) (k : ∀ l ys, J n ys → ∃ Γ1, Put Γ y (some (At l)) Γ1 ∧ DS c X B0 F D Γ1 (ω1 ++ [(l, Cl R ys)]) rest)
    (hyl : c.sc.names.lookup y = some .local := by exact rfl) (hk : c.sc.kind = .function := by exact rfl) (hln : (py.line == spos.line) = true := by rfl) (hpl : (py.line == pos.line) = true := by rfl) (ha : (scope.names.any fun (n, k) => n == y && (k == .local || k == .cell)) = false := by decide +kernel)
    (hs : ∀ env x, foldedSetIterable it env x = pure x := by intro _ _; rfl) : DS c X B0 F D Γ ω (.Assign [.Name y py] (.ListComp elt [⟨tg, it, ifs, 0⟩] scope pos) spos :: rest) := by
  intro fx σ B H hB hE hO
  obtain ⟨j, hj⟩ := hp.ix
  refine tS.cons (ps_setLc (i := j) (own := own) fx.calm (by rw [fx.ns]; exact fx.nd) (by rw [fx.ns]; exact hj) (by rw [fx.sc]; exact hyl) (sw_true (by rw [fx.sc]; exact hk) (by rw [fx.sc]; exact hyl) hpl ha) pi_w (by rw [fx.ns, fx.sc]; exact ok) (g := gBlk X scope tg) (te := eBlk X scope elt)
    (fun s H0 C cl fp => ⟨fun pins s' σ H v u Q I r h => h s H0 C cl fp pins s' u I r⟩) (fun s H0 C cl fp => pts_blk hi1 s H0 C cl fp) (fun s H0 C cl fp => ⟨fun pins s' σ H Q I h => h s H0 C cl fp pins s' I⟩) (hs _)) ?_
  refine lc_core' fx hE hO ok hw hi h0 hz hi1 hb fun l ys B1 H1 hJ e1 O1 => ?_
  obtain ⟨Γ1, hp1, k⟩ := k l ys hJ
  obtain ⟨j', h1, h2⟩ := hp1.set
  have e : j' = j := nodup_ix fx.nd h1 hj
  subst e
  exact k (fx.re hp1.names) _ B1 H1 (hB.trans e1) (h2 _ _ _ (hE.mono e1) rfl) O1
end
end ZZ

set_option maxHeartbeats 2000000
/-! Z7: a def that is there, tables, places, records of owned cells. -/
namespace ZZ
open PySem PySem.Spec PyProof.Rows L2
open Evl (Ex)

/-- the def of the text st stands at the module's name x -/
def Pr (M : Mo) (x : Str) (st : Stmt) (ps : List Str) : Prop := ∃ (f : Addr) (fd : FuncData), Fun M.K x x st f fd ∧ M.mg x = some (.ref f) ∧ Binds M.K fd ps []
theorem Pr.gd {τ : Type} {t : Ct τ} {M : Mo} {k : Nat} {x : Str} {st : Stmt} {N ps : List Str} (P : Pr M x st ps) (S : FnScope N ps (defScope st)) (hlen : ∀ g, (t.As g).length = ps.length)
    (hbody : ∀ (X : Cx) (B0 F0 : Hp) (D : Ends) (g : τ), t.pre g → Rt B0 F0 D.rt (t.S g) (t.ω' g) → (∀ σ H, D.rt .non H → D.nx σ H) → DS ⟨M, defScope st, k, true, false⟩ X B0 F0 D (mkΓ N (t.As g)) (t.ω g) (defBody st)) : Gd M (k + 1) x ps t := by
  obtain ⟨f, fd, F, hm, hb⟩ := P
  exact gd_of F S hm hb hlen hbody
theorem Gd.mono {τ : Type} {t : Ct τ} {M : Mo} {j k : Nat} {x : Str} {ps : List Str} (G : Gd M j x ps t) (h : j ≤ k) : Gd M k x ps t := by
  obtain ⟨f, fd, F, a, b, c⟩ := G
  exact ⟨f, fd, F.mono h, a, b, c⟩
/-- the built-ins' names that the module leaves alone -/
structure Blt (M : Mo) : Prop where
  len : M.mg "len" = none
  sum : M.mg "sum" = none
  max : M.mg "max" = none
  min : M.mg "min" = none
  range : M.mg "range" = none
  enumerate : M.mg "enumerate" = none
  zip : M.mg "zip" = none
  int : M.mg "int" = none
  bool : M.mg "bool" = none
  str : M.mg "str" = none
  isinstance : M.mg "isinstance" = none
  list : M.mg "list" = none
  tuple : M.mg "tuple" = none
  sorted : M.mg "sorted" = none

/-! ### tables and places -/
/-- the list f 0, .., f (n - 1) -/
def tab {α : Type} (f : Nat → α) (n : Nat) : List α := (List.range n).map f
theorem tab_len {α : Type} {f : Nat → α} {n : Nat} : (tab f n).length = n := by simp [tab]
theorem tab_succ {α : Type} {f : Nat → α} {n : Nat} : tab f (n + 1) = tab f n ++ [f n] := by simp [tab, List.range_succ]
theorem tab_get {α : Type} {f : Nat → α} {n i : Nat} (h : i < n) : (tab f n)[i]? = some (f i) := by
  unfold tab
  rw [List.getElem?_map, List.getElem?_range h]; rfl
theorem tab_get' {α : Type} {f : Nat → α} {n i : Nat} {y : α} (h : (tab f n)[i]? = some y) : i < n ∧ y = f i := by
  have hi : i < n := by
    have := (List.getElem?_eq_some_iff.mp h).1
    rwa [tab_len] at this
  rw [tab_get hi] at h
  exact ⟨hi, (Option.some.inj h).symm⟩
theorem tab_ext {α : Type} {f g : Nat → α} {n : Nat} (h : ∀ i, i < n → f i = g i) : tab f n = tab g n := by
  unfold tab
  exact List.map_congr_left fun i hi => h i (List.mem_range.mp hi)
theorem tab_set {α : Type} {f : Nat → α} {n j : Nat} {v : α} : (tab f n).set j v = tab (fun i => if i = j then v else f i) n := by
  refine List.ext_getElem? fun i => ?_
  by_cases hi : i < n
  · rw [tab_get hi]
    by_cases e : j = i
    · subst e
      rw [List.getElem?_set_self (by rw [tab_len]; exact hi), if_pos rfl]
    · rw [List.getElem?_set_ne e, tab_get hi, if_neg (fun z => e z.symm)]
  · rw [List.getElem?_eq_none (by rw [List.length_set, tab_len]; omega), List.getElem?_eq_none (by rw [tab_len]; omega)]
theorem atI_of {α : Type} {xs : List α} {k : Int} {j : Nat} {v : α} (hk : k = (j : Int)) (h : xs[j]? = some v) : L2.atI xs k = some v := by
  subst hk
  exact atI_nat h
theorem atI_neg {α : Type} {xs : List α} {k : Int} {j : Nat} {v : α} (hk : k = (j : Int) - (xs.length : Int)) (hj : j < xs.length) (h : xs[j]? = some v) : L2.atI xs k = some v := by
  have e : ixN xs.length k = some j := by
    unfold ixN
    rw [if_neg (by omega), if_pos (by omega)]
    congr 1
    omega
  unfold L2.atI
  rw [e]
  exact h
theorem ixN_of {n : Nat} {k : Int} {j : Nat} (hk : k = (j : Int)) (hj : j < n) : ixN n k = some j := by
  unfold ixN
  rw [if_pos (by omega), if_pos (by omega)]
  congr 1
  omega
section
variable {c : Cc} {Γ : En} {ω ω1 ω2 ω3 : Ws} {a b e : Expr} {pos p : Pos} {α : Type} {Rs : α → Sh} {xs : List α} {bb : Bool} {k : Int} {f : Nat → α} {n : Nat} {l : Addr} {S T : Sh}
/-- a[i] of a table -/
theorem d_ixT (ha : DE c Γ ω a (Sq bb Rs (tab f n)) ω1) (hb : DE c Γ ω1 b (I k) ω2) (j : Nat) (hk : k = (j : Int)) (hj : j < n) (hs : PlainIx b := by exact fun _ _ => rfl) : DE c Γ ω (.Subscript a b pos) (Rs (f j)) ω2 :=
  d_ix ha hb (atI_of hk (tab_get hj)) hs
theorem d_ixTO (ha : DE c Γ ω a (At l) ω1) (hb : DE c Γ ω1 b (I k) ω2) (hm : Hold ω2 l (Cl Rs (tab f n))) (j : Nat) (hk : k = (j : Int)) (hj : j < n) (hs : PlainIx b := by exact fun _ _ => rfl) : DE c Γ ω (.Subscript a b pos) (Rs (f j)) ω2 :=
  d_ixO ha hb hm (atI_of hk (tab_get hj)) hs
/-- the last one -/
theorem d_ixL (ha : DE c Γ ω a (At l) ω1) (hb : DE c Γ ω1 b (I (-1)) ω2) (hm : Hold ω2 l (Cl Rs (tab f (n + 1)))) (hs : PlainIx b := by exact fun _ _ => rfl) : DE c Γ ω (.Subscript a b pos) (Rs (f n)) ω2 :=
  d_ixO ha hb hm (by rw [tab_succ]; exact atI_last _ _) hs
theorem DE.eqI {i j : Int} (h : DE c Γ ω e (I i) ω1) (q : i = j) : DE c Γ ω e (I j) ω1 := q ▸ h
theorem DE.eqS {S T : Sh} (h : DE c Γ ω e S ω1) (q : S = T) : DE c Γ ω e T ω1 := q ▸ h

/-! ### owned cells of several kinds; owned cells of which something is known -/
def Cu (ss : List Sh) : Co := ⟨fun B o => ∃ vs, o = .lst vs ∧ All2 (fun v (s : Sh) => s.p B v) vs ss, fun e h => let ⟨vs, h1, h2⟩ := h; ⟨vs, h1, h2.mp fun _ s q => s.mono e q⟩⟩
def Ce {β : Type} (P : β → Prop) (C : β → Co) : Co := ⟨fun B o => ∃ x, P x ∧ (C x).p B o, fun e h => let ⟨x, h1, h2⟩ := h; ⟨x, h1, (C x).mono e h2⟩⟩
theorem d_ixOU {ss : List Sh} (ha : DE c Γ ω a (At l) ω1) (hb : DE c Γ ω1 b (I k) ω2) (hm : Hold ω2 l (Cu ss)) (h : L2.atI ss k = some S) (hs : PlainIx b := by exact fun _ _ => rfl) : DE c Γ ω (.Subscript a b pos) S ω2 := by
  intro X fx F σ B H hE hO Q hQ
  refine tW.of (pe_ix ix_list pe_w pe_w hs) ?_
  refine ha X fx F σ B H hE hO _ fun v B1 H1 e1 O1 p1 => ?_
  refine hb X fx F σ B1 H1 (hE.mono e1) O1 _ fun u B2 H2 e2 O2 p2 => ?_
  obtain ⟨_, _, o, h2, vs, rfl, h3⟩ := O2.ow _ _ hm.mem
  obtain ⟨z, q1, q2⟩ := h3.atI h
  exact ⟨l, vs, k, z, p1, p2, SqL.of h2, q1, hQ z B2 H2 (e1.trans e2) O2 q2⟩
end
section
variable {c : Cc} {X : Cx} {B0 F : Hp} {D : Ends} {Γ Γ1 : En} {ω ω1 ω2 ω3 ωo : Ws} {S T : Sh} {e o i : Expr} {rest sts : List Stmt} {pos p : Pos} {l : Addr}
theorem ds_setU {ss : List Sh} {kk : Int} {j : Nat} (he : DE c Γ ω e S ω1) (ho : DE c Γ ω1 o (At l) ω2) (hi : DE c Γ ω2 i (I kk) ω3) (hj : ixN ss.length kk = some j) (hs : Swp ω3 l (Cu ss) (Cu (ss.set j S)) ωo) (k : DS c X B0 F D Γ ωo rest)
    (hss : ∀ env, swapsWithSole [.Subscript o i p] e pos.line env = pure false := by intro _; rfl) (hw : ∀ env, swappedStores [.Subscript o i p] e env = pure none := by intro _; rfl)
    (ha : ∀ env v, assign (.Subscript o i p) env v = (do
      let ov ← holding [v] (eval o env)
      let iv ← holding [v, ov] (eval i env)
      standAt p
      holding [v, ov, iv] (setItem ov iv v)
      release [v, ov, iv] []) := by intro _ _; rfl) : DS c X B0 F D Γ ω (.Assign [.Subscript o i p] e pos :: rest) := by
  intro fx σ B H hB hE hO
  refine tS.cons (ps_asg pe_w (pg_sub pe_w pe_w set_list (ha _)) (hss _) (hw _) (by rfl)) ?_
  refine he X fx F σ B H hE hO _ fun v B1 H1 e1 O1 p1 => ?_
  refine ho X fx F σ B1 H1 (hE.mono e1) O1 _ fun v2 B2 H2 e2 O2 p2 => ?_
  refine hi X fx F σ B2 H2 (hE.mono (e1.trans e2)) O2 _ fun v3 B3 H3 e3 O3 p3 => ?_
  obtain ⟨_, _, o', h2, us, rfl, h3⟩ := O3.ow _ _ hs.mem
  refine ⟨l, us, kk, j, p2, p3, h2, by rw [h3.len]; exact hj, ?_⟩
  exact k fx σ B3 _ (((hB.trans e1).trans e2).trans e3) (hE.mono ((e1.trans e2).trans e3)) (O3.swp hs ⟨_, rfl, All2.set (R := fun v (s : Sh) => s.p B3 v) (S.mono (e2.trans e3) p1) j h3⟩)
/-- what is known of an owned cell is opened -/
theorem swp_own {F B H : Hp} {ω ω' : Ws} {l : Addr} {C C' : Co} (O : Own F ω B H) (s : Swp ω l C C' ω') (h : ∀ o, H l = some o → C'.p B o) : Own F ω' B H := by
  obtain ⟨_, _, o, h2, _⟩ := O.ow _ _ s.mem
  have e : upd H l o = H := by
    funext b
    by_cases z : b = l
    · subst z; rw [upd_same, h2]
    · rw [upd_ne z]
  have q := O.swp (o := o) s (h o h2)
  rw [e] at q
  exact q
theorem ds_open {β : Type} {P : β → Prop} {C : β → Co} {ω' : β → Ws} (hs : ∀ x, Swp ω l (Ce P C) (C x) (ω' x)) (k : ∀ x, P x → DS c X B0 F D Γ (ω' x) sts) (hn : Nonempty β) : DS c X B0 F D Γ ω sts := by
  intro fx σ B H hB hE hO
  obtain ⟨x0⟩ := hn
  obtain ⟨_, _, o, h2, x, hx, h3⟩ := hO.ow _ _ (hs x0).mem
  exact k x hx fx σ B H hB hE (swp_own hO (hs x) fun o' e => by rw [h2] at e; cases e; exact h3)
theorem ds_close {C C' : Co} {ω' : Ws} (hs : Swp ω l C C' ω') (hc : ∀ B o, C.p B o → C'.p B o) (k : DS c X B0 F D Γ ω' sts) : DS c X B0 F D Γ ω sts := by
  intro fx σ B H hB hE hO
  obtain ⟨_, _, o, h2, h3⟩ := hO.ow _ _ hs.mem
  exact k fx σ B H hB hE (swp_own hO hs fun o' e => by rw [h2] at e; cases e; exact hc _ _ h3)
end
/-- a shape that is known up to a word is opened -/
inductive UpE {α : Type} (P : α → Prop) (Rs : α → Sh) : En → Str → (α → En) → Prop
  | z {Γ x} : UpE P Rs ((x, some (Es P Rs)) :: Γ) x (fun y => (x, some (Rs y)) :: Γ)
  | s {Γ e x Γ'} : UpE P Rs Γ x Γ' → UpE P Rs (e :: Γ) x (fun y => e :: Γ' y)
theorem UpE.names {α : Type} {P : α → Prop} {Rs : α → Sh} {Γ : En} {x : Str} {Γ' : α → En} (h : UpE P Rs Γ x Γ') (y : α) : (Γ' y).map (·.1) = Γ.map (·.1) := by
  induction h with
  | z => rfl
  | s _ ih => simp [ih]
theorem UpE.env {α : Type} {P : α → Prop} {Rs : α → Sh} {x : Str} {B : Hp} : ∀ {Γ : En} {Γ' : α → En} {σ : L2.St}, UpE P Rs Γ x Γ' → EnvOk Γ σ B → ∃ y, P y ∧ EnvOk (Γ' y) σ B
  | _, _, [], .z, h => h.elim
  | _, _, _ :: _, .z, h => by
    obtain ⟨⟨v, h1, y, h2, h3⟩, h4⟩ := h
    exact ⟨y, h2, ⟨v, h1, h3⟩, h4⟩
  | (_, none) :: _, _, [], .s _, h => h.elim
  | (_, some _) :: _, _, [], .s _, h => h.elim
  | (_, none) :: _, _, _ :: σ, .s q, h => by
    obtain ⟨y, h1, h2⟩ := q.env (σ := σ) h
    exact ⟨y, h1, h2⟩
  | (_, some _) :: _, _, _ :: σ, .s q, h => by
    obtain ⟨y, h1, h2⟩ := q.env (σ := σ) h.2
    exact ⟨y, h1, h.1, h2⟩
theorem ds_openE {c : Cc} {X : Cx} {B0 F : Hp} {D : Ends} {Γ : En} {ω : Ws} {sts : List Stmt} {α : Type} {P : α → Prop} {Rs : α → Sh} {x : Str} {Γ' : α → En} (hu : UpE P Rs Γ x Γ') (k : ∀ y, P y → DS c X B0 F D (Γ' y) ω sts) : DS c X B0 F D Γ ω sts := by
  intro fx σ B H hB hE hO
  obtain ⟨y, hy, hE'⟩ := hu.env hE
  exact k y hy (fx.re (hu.names y)) σ B H hB hE' hO
end ZZ

set_option maxHeartbeats 2000000
/-! Z8: small forms for printed derivations. -/
namespace ZZ
open PySem PySem.Spec PyProof.Rows L2
open Evl (Ex)
section
variable {c : Cc} {X : Cx} {B0 F : Hp} {D : Ends} {Γ Γ0 Γ1 : En} {ω ω1 : Ws} {e it tg : Expr} {es : List Expr} {S T : Sh} {pos p pos' : Pos} {rest body : List Stmt} {α β : Type} {Rs : α → Sh} {Rb : β → Sh} {W : Nat → β → Prop} {xs : List α} {x : Str} {n : Nat}
theorem ds_ret0 (hR : Rt B0 F D.rt T []) (he : DE c Γ ω e S ω1) (q : S = T := by rfl) : DS c X B0 F D Γ ω (.Return (some e) pos :: rest) := ds_ret (ωo := []) (ω1 := ω1) hR he (q ▸ Sle.refl)
/-- a list display whose shapes are those of the list xs -/
theorem n_lstQ {ss : List Sh} (Rs : α → Sh) (xs : List α) (h : DA c Γ ω es ss ω1) (q : ss = xs.map Rs := by rfl) (hl : xs.length ≤ sizeLine := by show _ ≤ 16777216; simp [tab]) : DN c Γ ω (.List es pos) Rs xs ω1 := n_lst (q ▸ h) hl
theorem d_lstQ {ss : List Sh} (Rs : α → Sh) (xs : List α) (h : DA c Γ ω es ss ω1) (q : ss = xs.map Rs := by rfl) (hl : xs.length ≤ sizeLine := by show _ ≤ 16777216; simp [tab]) : DE c Γ ω (.List es pos) (L Rs xs) ω1 := d_lst (q ▸ h) hl
theorem ds_own0 (he : DN c Γ ω e Rs xs []) (hn : Put Γ x none Γ0) (k : ∀ l, ∃ Γ1, Put Γ x (some (At l)) Γ1 ∧ DS c X B0 F D Γ1 [(l, Cl Rs xs)] rest) (hl : Lo c x := by first | exact Or.inl rfl | exact Or.inr ⟨rfl, rfl⟩) (hs : ∀ env, swapsWithSole [.Name x p] e pos.line env = pure false := by intro _; rfl) : DS c X B0 F D Γ ω (.Assign [.Name x p] e pos :: rest) := ds_own he hn k hl hs
theorem ds_own1 {w : Addr × Co} (he : DN c Γ ω e Rs xs [w]) (hn : Put Γ x none Γ0) (k : ∀ l, ∃ Γ1, Put Γ x (some (At l)) Γ1 ∧ DS c X B0 F D Γ1 [w, (l, Cl Rs xs)] rest) (hl : Lo c x := by first | exact Or.inl rfl | exact Or.inr ⟨rfl, rfl⟩) (hs : ∀ env, swapsWithSole [.Name x p] e pos.line env = pure false := by intro _; rfl) : DS c X B0 F D Γ ω (.Assign [.Name x p] e pos :: rest) := ds_own he hn k hl hs
theorem ds_own2 {w u : Addr × Co} (he : DN c Γ ω e Rs xs [w, u]) (hn : Put Γ x none Γ0) (k : ∀ l, ∃ Γ1, Put Γ x (some (At l)) Γ1 ∧ DS c X B0 F D Γ1 [w, u, (l, Cl Rs xs)] rest) (hl : Lo c x := by first | exact Or.inl rfl | exact Or.inr ⟨rfl, rfl⟩) (hs : ∀ env, swapsWithSole [.Name x p] e pos.line env = pure false := by intro _; rfl) : DS c X B0 F D Γ ω (.Assign [.Name x p] e pos :: rest) := ds_own he hn k hl hs
theorem ds_appQ {apos cpos : Pos} {o : Expr} {l : Addr} {ω2 : Ws} {S : Sh} (Rs : α → Sh) (y : α) (ho : DE c Γ ω o (At l) ω) (he : DE c Γ ω e S ω1) (q : S = Rs y) (hm : Hold ω l (Cl Rs xs)) (hs : Swp ω1 l (Cl Rs xs) (Cl Rs (xs ++ [y])) ω2) (hl : xs.length < sizeLine) (k : DS c X B0 F D Γ ω2 rest)
    (hbase : ∀ env, attributeBase o "append" env (eval o env) = eval o env := by intro _; rfl)
    (hfew : ∀ env, ((backTo cpos (starEach [e] env)).all (fun x => !x.1) && (backToKw cpos (keywordEach [] env)).all (fun x => x.1.isSome) && decide ([e].length + ([] : List Keyword).length + (if ([] : List Keyword).isEmpty then 0 else 1) < 30)) = true := by intro _; rfl)
    (hline : (apos.endLine == cpos.line) = true := by rfl) (hst : ∀ env, starEach [e] env = (false, eval e env) :: starEach [] env := by intro _; rfl) (hsw : ∀ env, swapsWith (.Call (.Attribute o "append" apos) [e] [] cpos) none pos.line env = pure false := by intro _; rfl) :
    DS c X B0 F D Γ ω (.Expr (.Call (.Attribute o "append" apos) [e] [] cpos) pos :: rest) := ds_app ho (q ▸ he) hm hs hl k hbase hfew hline hst hsw
theorem ds_ifT {k : Bool} {t : Expr} {a b : List Stmt} (ht : DT c Γ ω t (· = k) ω1) (hk : k = true) (ha : DS c X B0 F { D with nx := tS X rest D } Γ ω1 a) : DS c X B0 F D Γ ω (.If t a b pos :: rest) := ds_if ht (fun _ => ha) (fun h => absurd (h.trans hk) (by decide))
theorem ds_ifF {k : Bool} {t : Expr} {a b : List Stmt} (ht : DT c Γ ω t (· = k) ω1) (hk : k = false) (ha : DS c X B0 F { D with nx := tS X rest D } Γ ω1 b) : DS c X B0 F D Γ ω (.If t a b pos :: rest) := ds_if ht (fun h => absurd (h.trans hk) (by decide)) (fun _ => ha)
/-- names and cells by the turn -/
def lp (f : Nat → En) (g : Nat → Ws) (i : Nat) : En → Ws → Prop := fun Γ ω => Γ = f i ∧ ω = g i
theorem ds_forF [Cold c] (f : Nat → En) (g : Nat → Ws) (hi : DI c Γ ω tg it n W Rb ω1) (hf : Fg Γ (f 0)) (h0 : ω1 = g 0)
    (hb : ∀ B1, Ex B0 B1 → ∀ i y, i < n → W i y → ∃ Γb ns, DG c tg ns (Rb y) (f i) Γb ∧ DS c X B1 F { D with nx := Jn (Γ.map (·.1)) B1 F (lp f g (i + 1)), ct := Jn (Γ.map (·.1)) B1 F (lp f g (i + 1)), bk := tS X rest D } Γb (g i) body)
    (hd : DS c X B0 F D (f n) (g n) rest) (hs : ∀ env x, foldedSetIterable it env x = pure x := by intro _ _; rfl) : DS c X B0 F D Γ ω (.For tg it body [] pos :: rest) := by
  refine ds_for (fun i => lp f g i) hi hf ⟨rfl, h0⟩ ?_ ?_ hs
  · rintro B1 hB1 i y _ _ hi hW ⟨rfl, rfl⟩ _
    exact hb B1 hB1 i y hi hW
  · rintro _ _ ⟨rfl, rfl⟩ _
    exact hd
theorem ds_turnJ {J : En → Ws → Prop} {N : List Str} (f : Fg Γ Γ1) (h : J Γ1 ω) (hN : N = Γ.map (·.1)) (hx : D.nx = Jn N B0 F J) : DS c X B0 F D Γ ω [] := ds_turn (nx := D.nx) f h hN hx
theorem ds_turnF {f : Nat → En} {g : Nat → Ws} {k : Nat} {N : List Str} (ff : Fg Γ (f k)) (hω : ω = g k) (hN : N = Γ.map (·.1)) (hx : D.nx = Jn N B0 F (lp f g k)) : DS c X B0 F D Γ ω [] := ds_turn (nx := D.nx) ff ⟨rfl, hω⟩ hN hx
theorem ds_contF {f : Nat → En} {g : Nat → Ws} {k : Nat} {N : List Str} (ff : Fg Γ (f k)) (hω : ω = g k) (hN : N = Γ.map (·.1)) (hx : D.ct = Jn N B0 F (lp f g k)) : DS c X B0 F D Γ ω (.Continue pos :: rest) :=
  ds_cont fun σ B H hB hE hO => by
    rw [hx]
    exact ⟨f k, g k, B, ⟨rfl, rfl⟩, by rw [ff.names, hN], hB, ff.env hE, hω ▸ hO⟩
theorem d_call0 [Cold c] {τ : Type} {t : Ct τ} {k : Nat} {ps : List Str} {ss : List Sh} (g : τ) (G : Gd c.M k x ps t) (hk : k ≤ c.k) (ha : DA c Γ ω (e :: es) ss ω1) (hs : ss = t.As g) (hp : t.pre g) (h0 : t.ω g = [] := by rfl) (h1 : t.ω' g = [] := by rfl)
    (hg : Glo c.sc x := by exact rfl) (hdb : (x == ("__debug__" : Str)) = false := by decide) (he : ∀ env, starEach (e :: es) env = (false, eval e env) :: starEach es env := by intro _; rfl) (hpl : ∀ env, (backTo pos (starEach es env)).any (·.1) = false := by intro _; rfl) :
    DE c Γ ω (.Call (.Name x p) (e :: es) [] pos) (t.S g) ω1 := by
  have h := d_call (p := p) (pos := pos) (rest := ω1) g G hk ha hs hp (by rw [h0]; rfl) hg hdb he hpl
  rw [h1] at h
  exact h
end
theorem tS.nx {X : Cx} {sts : List Stmt} {D : Ends} {nx : L2.St → Hp → Prop} {σ : L2.St} {H : Hp} (h : tS X sts { D with nx := nx } σ H) (k : ∀ σ H, nx σ H → D.nx σ H) : tS X sts D σ H := fun pins s I => thn (h pins s I) fun f s' q => by
  cases f with
  | next => obtain ⟨σ', H', I', q⟩ := q; exact ⟨σ', H', I', k _ _ q⟩
  | brk => exact q
  | cont => exact q
  | ret u => exact q
/-- an if whose branches meet again -/
theorem ds_ifJ {c : Cc} {X : Cx} {B0 F : Hp} {D : Ends} {Γ : En} {ω ω1 : Ws} {t : Expr} {a b rest : List Stmt} {pos : Pos} {R : Bool → Prop} (Γj : En) (ωj : Ws) (hN : Γj.map (·.1) = Γ.map (·.1)) (ht : DT c Γ ω t R ω1)
    (ha : R true → DS c X B0 F { D with nx := Jn (Γ.map (·.1)) B0 F (lp (fun _ => Γj) (fun _ => ωj) 0) } Γ ω1 a) (hb : R false → DS c X B0 F { D with nx := Jn (Γ.map (·.1)) B0 F (lp (fun _ => Γj) (fun _ => ωj) 0) } Γ ω1 b) (hk : DS c X B0 F D Γj ωj rest) : DS c X B0 F D Γ ω (.If t a b pos :: rest) := by
  have key : ∀ (sts : List Stmt), (DS c X B0 F { D with nx := Jn (Γ.map (·.1)) B0 F (lp (fun _ => Γj) (fun _ => ωj) 0) } Γ ω1 sts) → DS c X B0 F { D with nx := tS X rest D } Γ ω1 sts := fun sts h fx σ B H hB hE hO =>
    tS.nx (D := { D with nx := tS X rest D }) (h fx σ B H hB hE hO) fun σ' H' q => by
      obtain ⟨Γi, ωi, B', ⟨rfl, rfl⟩, q1, q2, q3, q4⟩ := q
      exact hk (fx.re q1) σ' B' H' q2 q3 q4
  exact ds_if ht (fun h => key _ (ha h)) (fun h => key _ (hb h))
theorem ds_meet {c : Cc} {X : Cx} {B0 F : Hp} {D : Ends} {Γ Γj : En} {ω ωj : Ws} {N : List Str} (ff : Fg Γ Γj) (hω : ω = ωj) (hN : N = Γ.map (·.1)) (hx : D.nx = Jn N B0 F (lp (fun _ => Γj) (fun _ => ωj) 0)) : DS c X B0 F D Γ ω [] := ds_turnJ ff ⟨rfl, hω⟩ hN hx
theorem DT.eqB {c : Cc} {Γ : En} {ω ω1 : Ws} {e : Expr} {k l : Bool} (h : DT c Γ ω e (· = k) ω1) (q : k = l) : DT c Γ ω e (· = l) ω1 := q ▸ h
theorem All2.comp {vs : List V} {B : Hp} : ∀ {ss ts : List Sh} {vs : List V}, All2 (fun v (s : Sh) => s.p B v) vs ss → All2 Sle ss ts → All2 (fun v (s : Sh) => s.p B v) vs ts
  | _, _, _, .nil, .nil => .nil
  | _, _, _, .cons h t, .cons q u => .cons (q _ _ h) (t.comp (vs := vs) u)
/-- a contract read as another one -/
theorem Gd.pull {τ τ' : Type} {t : Ct τ} {t' : Ct τ'} {M : Mo} {k : Nat} {x : Str} {ps : List Str} (G : Gd M k x ps t) (f : τ' → τ) (hAs : ∀ g, t'.pre g → All2 Sle (t'.As g) (t.As (f g))) (hp : ∀ g, t'.pre g → t.pre (f g)) (hω : ∀ g, t'.ω g = t.ω (f g)) (hω' : ∀ g, t'.ω' g = t.ω' (f g)) (hS : ∀ g, t'.pre g → Sle (t.S (f g)) (t'.S g)) : Gd M k x ps t' := by
  obtain ⟨fa, fd, h, q⟩ := G
  refine ⟨fa, fd, h.imp fun vs H Q E z => ?_, q⟩
  obtain ⟨g, F, B, z1, z2, z3, z4⟩ := z
  exact ⟨f g, F, B, hp g z1, z2.comp (vs := vs) (hAs g z1), (hω g) ▸ z3, fun v B' H' e O p => z4 v B' H' e ((hω' g).symm ▸ O) (hS g z1 _ _ p)⟩
theorem nonb_I {i : Int} : NonB (I i) false := fun B v h => by rw [show v = V.int i from h]; rfl
theorem nonb_No : NonB No true := fun B v h => by rw [show v = V.non from h]; rfl
theorem nonb_Bo {k : Bool} : NonB (Bo k) false := fun B v h => by rw [show v = V.bl k from h]; rfl
theorem nonb_S {s : Str} : NonB (Tx s) false := fun B v h => by rw [show v = V.str s from h]; rfl
/-- none or a number, none or a pair -/
def Op : Option Int → Sh
  | none => No
  | some x => I x
def P2 (x : Int × Int) : Sh := U [I x.1, I x.2]
def Opp : Option (Int × Int) → Sh
  | none => No
  | some x => P2 x
theorem sle_tup {α : Type} {R : α → Sh} {xs : List α} : Sle (U (xs.map R)) (Sq false R xs) := fun B v h => by
  obtain ⟨a, vs, rfl, h1, h2⟩ := h
  refine ⟨a, vs, rfl, h1, ?_⟩
  clear h1
  induction xs generalizing vs with
  | nil => cases h2; exact .nil
  | cons x xs ih => cases h2 with | cons p q => exact .cons p (ih _ q)
theorem sle_tup' {α : Type} {R : α → Sh} {xs : List α} : Sle (Sq false R xs) (U (xs.map R)) := fun B v h => by
  obtain ⟨a, vs, rfl, h1, h2⟩ := h
  refine ⟨a, vs, rfl, h1, ?_⟩
  clear h1
  induction xs generalizing vs with
  | nil => cases h2; exact .nil
  | cons x xs ih => cases h2 with | cons p q => exact .cons p (ih _ q)
/-- the first of 0, .., n - 1 that answers P -/
def fst (P : Nat → Bool) (n : Nat) : Option Nat := (List.range n).find? P
theorem fst_some {P : Nat → Bool} {n k : Nat} (h1 : ∀ j, j < k → P j = false) (h2 : P k = true) (h3 : k < n) : fst P n = some k := by
  unfold fst
  rw [List.find?_eq_some_iff_append]
  refine ⟨h2, List.range k, List.range' (k + 1) (n - (k + 1)), ?_, fun j hj => by rw [h1 j (List.mem_range.mp hj)]; rfl⟩
  rw [List.range_eq_range', List.range_eq_range', ← List.range'_succ]
  have q := @List.range'_append 0 k (n - (k + 1) + 1) 1
  rw [Nat.one_mul, Nat.zero_add] at q
  rw [q]
  congr 1
  omega
theorem fst_none {P : Nat → Bool} {n : Nat} (h : ∀ j, j < n → P j = false) : fst P n = none := by
  unfold fst
  rw [List.find?_eq_none]
  intro j hj
  rw [h j (List.mem_range.mp hj)]
  exact Bool.false_ne_true
theorem fst_at {P : Nat → Bool} {n k : Nat} (h : fst P n = some k) : P k = true ∧ k < n ∧ ∀ j, j < k → P j = false := by
  have q := List.find?_some h
  have q2 : k < n := List.mem_range.mp (List.mem_of_find?_eq_some h)
  refine ⟨q, q2, fun j hj => ?_⟩
  cases e : P j with
  | false => rfl
  | true =>
    exfalso
    -- the first among 0 .. j is at most j
    unfold fst at h
    obtain ⟨_, as, bs, hl, hno⟩ := List.find?_eq_some_iff_append.mp h
    have hlen : as.length = k := by
      have z : (List.range n)[as.length]? = some k := by rw [hl]; simp
      rw [List.getElem?_range (by have := congrArg List.length hl; simp at this; omega)] at z
      exact Option.some.inj z
    have z : (List.range n)[j]? = some j := List.getElem?_range (by omega)
    rw [hl, List.getElem?_append_left (by omega)] at z
    have := hno j (List.mem_of_getElem? z)
    rw [e] at this
    cases this
theorem fst_no {P : Nat → Bool} {n : Nat} (h : fst P n = none) {j : Nat} (hj : j < n) : P j = false := by
  unfold fst at h
  rw [List.find?_eq_none] at h
  have := h j (List.mem_range.mpr hj)
  revert this
  cases P j <;> simp
end ZZ

set_option maxHeartbeats 2000000
/-! Z9: the pot from which a law draws; answers that leave owned cells. -/
namespace ZZ
open PySem PySem.Spec PyProof.Rows L2
open Evl (Ex)
/-! ### the pot -/
def PotP : Int × Int → Prop := fun ab => 0 ≤ ab.1 ∧ ab.1 < 1000003
def potA (q : Addr) (ab : Int × Int) : Co := Cu [I ab.1, I ab.2, At q]
def potQ : Co := Ce (fun _ : List Int => True) (Cl I)
def potW (p q : Addr) : Ws := [(p, Ce PotP (potA q)), (q, potQ)]
theorem sle_es {α : Type} {P : α → Prop} {R : α → Sh} {y : α} (h : P y) : Sle (R y) (Es P R) := fun _ _ z => ⟨y, h, z⟩
theorem Own.close {F B H : Hp} {ω ω' : Ws} {l : Addr} {C C' : Co} (O : Own F ω B H) (hs : Swp ω l C C' ω') (hc : ∀ B o, C.p B o → C'.p B o) : Own F ω' B H := by
  obtain ⟨_, _, o, h2, h3⟩ := O.ow _ _ hs.mem
  exact swp_own O hs fun o' e => by rw [h2] at e; cases e; exact hc _ _ h3
section
variable {c : Cc} {X : Cx} {B0 F : Hp} {D : Ends} {Γ Γ0 : En} {ω ω1 ωo : Ws} {S T : Sh} {e : Expr} {es : List Expr} {rest : List Stmt} {pos p : Pos} {x : Str}
theorem ds_retO (hR : Rt B0 F D.rt T ωo) (he : DE c Γ ω e S ω1) (w : Sle S T) (hO : ∀ B H, Own F ω1 B H → Own F ωo B H) : DS c X B0 F D Γ ω (.Return (some e) pos :: rest) := by
  intro fx σ B H hB hE hO'
  refine tS.cons (ps_ret pe_w) ?_
  refine he X fx F σ B H hE hO' _ fun v B1 H1 e1 O1 p1 => ?_
  exact hR v B1 H1 (hB.trans e1) (hO _ _ O1) (w _ _ p1)
theorem ds_retE {α : Type} {P : α → Prop} {Rs : α → Sh} (hR : Rt B0 F D.rt (Es P Rs) ωo) {y : α} (he : DE c Γ ω e (Rs y) ω1) (hy : P y) (hO : ∀ B H, Own F ω1 B H → Own F ωo B H) : DS c X B0 F D Γ ω (.Return (some e) pos :: rest) :=
  ds_retO hR he (fun B v h => ⟨y, hy, h⟩) hO
/-! ### a new pot -/
def RtP (B0 F : Hp) (rt : VK) : Prop := ∀ p q B H, Ex B0 B → Own F (potW p q) B H → rt (.ref p) H
def DAN {α : Type} (c : Cc) (Γ : En) (ω : Ws) (es : List Expr) (ss : Addr → List Sh) (R : α → Sh) (xs : List α) (ω' : Ws) : Prop :=
  ∀ X, Fits c (Γ.map (·.1)) X → ∀ F σ B H, EnvOk Γ σ B → Own F ω B H → ∀ Q : List V → Hp → Prop, (∀ l vs B' H', Ex B B' → Own F (ω' ++ [(l, Cl R xs)]) B' H' → All2 (fun v (s : Sh) => s.p B' v) vs (ss l) → Q vs H') → tA X es σ H Q
theorem an_last {α : Type} {R : α → Sh} {xs : List α} (h : DN c Γ ω e R xs ω1) (hs : ∀ env, starEach [e] env = (false, eval e env) :: starEach [] env := by intro _; rfl) : DAN c Γ ω [e] (fun l => [At l]) R xs ω1 := fun X fx F σ B H hE hO Q hQ => by
  refine tA.of (pa_cons pe_w pa_w (hs _)) ?_
  refine h X fx F σ B H hE hO _ fun l B1 H1 e1 O1 => ?_
  exact tA.of pa_nil (hQ l _ B1 H1 e1 O1 (.cons rfl .nil))
theorem an_cons {α : Type} {R : α → Sh} {xs : List α} {ss : Addr → List Sh} {ω2 : Ws} (ha : DE c Γ ω e S ω1) (hr : DAN c Γ ω1 es ss R xs ω2) (hs : ∀ env, starEach (e :: es) env = (false, eval e env) :: starEach es env := by intro _; rfl) : DAN c Γ ω (e :: es) (fun l => S :: ss l) R xs ω2 := fun X fx F σ B H hE hO Q hQ => by
  refine tA.of (pa_cons pe_w pa_w (hs _)) ?_
  refine ha X fx F σ B H hE hO _ fun v B1 H1 e1 O1 p1 => ?_
  exact hr X fx F σ B1 H1 (hE.mono e1) O1 _ fun l vs B2 H2 e2 O2 p2 => hQ l _ B2 H2 (e1.trans e2) O2 (.cons (S.mono e2 p1) p2)
theorem ds_retP {xs : List Int} {a b : Int} (hR : RtP B0 F D.rt) (h : DAN c Γ ω es (fun l => [I a, I b, At l]) I xs []) (hab : PotP (a, b)) : DS c X B0 F D Γ ω (.Return (some (.List es p)) pos :: rest) := by
  intro fx σ B H hB hE hO
  refine tS.cons (ps_ret pe_w) ?_
  refine tW.of (pe_lst pa_w) ?_
  refine h X fx F σ B H hE hO _ fun l vs B1 H1 e1 O1 p1 => ⟨by rw [p1.len]; show _ ≤ 16777216; simp, fun r hr => ?_⟩
  have O2 : Own F ((r, Cu [I a, I b, At l]) :: [(l, Cl I xs)]) B1 (upd H1 r (.lst vs)) := O1.cons hr ⟨vs, rfl, p1⟩
  have O3 : Own F [(r, Ce PotP (potA l)), (l, Cl I xs)] B1 (upd H1 r (.lst vs)) := O2.close .z fun B o z => ⟨(a, b), hab, z⟩
  exact hR r l B1 _ (hB.trans e1) (O3.close (.s .z) fun B o z => ⟨xs, trivial, z⟩)
/-- the numbers that the law is handed -/
def Sk (K : PySem.W.Frag) (ns : List Int) : Sh := ⟨fun B v => ∃ a, v = .ref a ∧ SqL K B a (ns.map V.int), fun e h => let ⟨a, h1, h2⟩ := h; ⟨a, h1, Evl.ex_l e h2⟩⟩
theorem all_ints {B : Hp} : ∀ ns : List Int, All2 (fun v x => (I x).p B v) (ns.map V.int) ns
  | [] => .nil
  | _ :: ns => .cons rfl (all_ints ns)
theorem n_slK {ns : List Int} {a : Expr} {ω2 ω3 : Ws} {lo hi : Option Expr} {i j : Option Int} {p2 : Pos} (ha : DE c Γ ω a (Sk c.M.K ns) ω1) (hl : DO c Γ ω1 lo i ω2) (hh : DO c Γ ω2 hi j ω3) : DN c Γ ω (.Subscript a (.Slice lo hi none p2) pos) I (cut ns i j) ω3 := by
  intro X fx F σ B H hE hO Q hQ
  refine tW.of (pe_slice sl_list pe_w po_w po_w) ?_
  refine ha X fx F σ B H hE hO _ fun v B1 H1 e1 O1 p1 => ?_
  refine hl.run fx (hE.mono e1) O1 fun B2 H2 e2 O2 => ?_
  refine hh.run fx (hE.mono (e1.trans e2)) O2 fun B3 H3 e3 O3 => ?_
  obtain ⟨a', rfl, h2⟩ := p1
  have h3 : All2 (fun v x => (I x).p B3 v) (ns.map V.int) ns := all_ints ns
  exact ⟨a', _, rfl, by rw [fx.K]; exact Evl.ex_l ((e2.trans e3).trans O3.ex) h2, fun q hq => hQ q _ _ ((e1.trans e2).trans e3) (O3.add hq (C := Cl I (cut ns i j)) ⟨_, rfl, h3.cut i j⟩)⟩
theorem d_slK {ns : List Int} {a : Expr} {ω2 ω3 : Ws} {lo hi : Option Expr} {i j : Option Int} {p2 : Pos} (ha : DE c Γ ω a (Sk c.M.K ns) ω1) (hl : DO c Γ ω1 lo i ω2) (hh : DO c Γ ω2 hi j ω3) : DE c Γ ω (.Subscript a (.Slice lo hi none p2) pos) (L I (cut ns i j)) ω3 := (n_slK ha hl hh).frz
def spPot (K : PySem.W.Frag) (n : Nat) : Sp := fun vs H Q _ => ∃ (F B : Hp) (ns : List Int), ns.length ≤ n ∧ All2 (fun v (s : Sh) => s.p B v) vs [Sk K ns] ∧ Own F [] B H ∧ ∀ p q B' H', Ex B B' → Own F (potW p q) B' H' → Q (.ref p) H'
def Gp (M : Mo) (k : Nat) (x : Str) (n : Nat) (ps : List Str) : Prop :=
  ∃ (f : Addr) (fd : FuncData), FnOk M.P M.w M.K M.mg M.base CX0 k f fd ps (spPot M.K n) ∧ M.mg x = some (.ref f) ∧ PySem.W.keepIn M.K (.ref f) = true ∧ Binds M.K fd ps []
theorem Pr.gp {M : Mo} {k n : Nat} {x : Str} {st : Stmt} {N : List Str} {s : Str} (P : Pr M x st [s]) (S : FnScope N [s] (defScope st))
    (hbody : ∀ (X : Cx) (B0 F0 : Hp) (D : Ends) (ns : List Int), ns.length ≤ n → RtP B0 F0 D.rt → DS ⟨M, defScope st, k, true, false⟩ X B0 F0 D (mkΓ N [Sk M.K ns]) [] (defBody st)) : Gp M (k + 1) x n [s] := by
  obtain ⟨f, fd, F, hm, hb⟩ := P
  refine ⟨f, fd, F.ok S (fun vs H Q E h => ?_) (fun cdv A outer s H vs Q E hr h => ?_), hm, F.kp, hb⟩
  · obtain ⟨_, _, ns, _, h2, _⟩ := h
    rw [h2.len]; rfl
  · obtain ⟨F0, B, ns, hn, hv, hO, hQ⟩ := h
    have hl : [s].length ≤ N.length := by have := congrArg List.length S.pre; rw [List.length_take] at this; simp at this ⊢; omega
    refine ⟨_, pss_w, hbody _ B F0 _ ns hn (fun p q B' H' e1 O1 => hQ p q B' H' e1 O1) ?_ _ B H (Ex.refl B) (mk_env N _ vs hv hl) hO⟩
    rw [mk_names]
    exact ⟨rfl, rfl, rfl, rfl, rfl, rfl, rfl, S.nd, fun _ => rfl, fun _ => hr, L2H.roomH_of hr, (fun h => nomatch h), fun _ _ _ => rfl, PassesOwn.never⟩
theorem ds_pot [Cold c] {k n : Nat} {y : Str} {a : Expr} {s : Str} {ns : List Int} {px pf : Pos} (G : Gp c.M k y n [s]) (hk : k ≤ c.k) (ha : DE c Γ [] a (Sk c.M.K ns) []) (hn : ns.length ≤ n) (hp : Put Γ x none Γ0) (K : ∀ p q, ∃ Γ1, Put Γ x (some (At p)) Γ1 ∧ DS c X B0 F D Γ1 (potW p q) rest)
    (hl : Lo c x := by first | exact Or.inl rfl | exact Or.inr ⟨rfl, rfl⟩) (hg : Glo c.sc y := by exact rfl) (hdb : (y == ("__debug__" : Str)) = false := by decide) (he : ∀ env, starEach [a] env = (false, eval a env) :: starEach [] env := by intro _; rfl) (hpl : ∀ env, (backTo p (starEach ([] : List Expr) env)).any (·.1) = false := by intro _; rfl)
    (hs : ∀ env, swapsWithSole [.Name x px] (.Call (.Name y pf) [a] [] p) pos.line env = pure false := by intro _; rfl) (hw : ∀ env, swappedStores [.Name x px] (.Call (.Name y pf) [a] [] p) env = pure none := by intro _; rfl) : DS c X B0 F D Γ [] (.Assign [.Name x px] (.Call (.Name y pf) [a] [] p) pos :: rest) := by
  intro fx σ B H hB hE hO
  obtain ⟨f, fd, hF, hm, hkp, hb⟩ := G
  obtain ⟨j, hj⟩ := hp.ix
  refine tS.cons (ps_asg pe_w (pg_name (i := j) (by rw [fx.ns]; exact fx.nd) (by rw [fx.ns]; exact hj) (fx.lo hl).1 (fx.lo hl).2) (hs _) (hw _) (by rfl)) ?_
  have hF' : FnOk X.prog X.w X.K X.mg X.base CX0 k f fd [s] (spPot c.M.K n) := by rw [fx.prog, fx.w, fx.K, fx.mg, fx.base]; exact hF
  refine tW.of (pe_call (ds := []) (dvs := []) (E := E0) hF' (fx.room.mono hk) (gl_of fx hg) (by rw [fx.mg]; exact hm) (by rw [fx.K]; exact hkp) (by rw [fx.K]; exact hb) .nil pass0 pa_w hdb (he _) (hpl _)) ?_
  refine a_cons ha a_nil he X fx F σ B H hE hO _ fun vs B1 H1 e1 O1 p1 => ?_
  refine ⟨F, B1, ns, hn, by rw [List.append_nil]; exact p1, O1, fun p' q' B2 H2 e2 O2 => ?_⟩
  obtain ⟨Γ1, hp', K⟩ := K p' q'
  obtain ⟨j', h1, h2⟩ := hp'.set
  have e : j' = j := nodup_ix fx.nd h1 hj
  subst e
  exact K (fx.re hp'.names) _ B2 H2 (hB.trans (e1.trans e2)) (h2 _ _ _ (hE.mono (e1.trans e2)) rfl) O2
end
/-! ### numbers known up to a word -/
section
variable {c : Cc} {Γ : En} {ω ω1 ω2 : Ws} {a b : Expr} {P Q' : Int → Prop} {pos p : Pos} {r : L2.R2}
theorem rr_EE {f : Int → Int → Int} (h : ∀ i j, P i → Q' j → RR r (I i) (I j) (I (f i j))) : RR r (Ei P) (Ei Q') (Ei fun z => ∃ i j, P i ∧ Q' j ∧ z = f i j) := fun F ω B H v u h1 h2 O Q q => by
  obtain ⟨i, hi, e1⟩ := h1
  obtain ⟨j, hj, e2⟩ := h2
  exact h i j hi hj F ω B H v u e1 e2 O Q fun z B' H' e O' p => q z B' H' e O' ⟨_, ⟨i, j, hi, hj, rfl⟩, p⟩
theorem rr_ET {f : Int → Int → Bool} (h : ∀ i j, P i → Q' j → RR r (I i) (I j) (Bo (f i j))) : RR r (Ei P) (Ei Q') (Es (fun z => ∃ i j, P i ∧ Q' j ∧ z = f i j) Bo) := fun F ω B H v u h1 h2 O Q q => by
  obtain ⟨i, hi, e1⟩ := h1
  obtain ⟨j, hj, e2⟩ := h2
  exact h i j hi hj F ω B H v u e1 e2 O Q fun z B' H' e O' p => q z B' H' e O' ⟨_, ⟨i, j, hi, hj, rfl⟩, p⟩
theorem e_add (ha : DE c Γ ω a (Ei P) ω1) (hb : DE c Γ ω1 b (Ei Q') ω2) : DE c Γ ω (.BinOp a .Add b pos) (Ei fun z => ∃ i j, P i ∧ Q' j ∧ z = i + j) ω2 := d_bin (fun _ => op_add) ha hb (rr_EE fun _ _ _ _ => rr_I0)
theorem e_sub (ha : DE c Γ ω a (Ei P) ω1) (hb : DE c Γ ω1 b (Ei Q') ω2) : DE c Γ ω (.BinOp a .Sub b pos) (Ei fun z => ∃ i j, P i ∧ Q' j ∧ z = i - j) ω2 := d_bin (fun _ => op_sub) ha hb (rr_EE fun _ _ _ _ => rr_I0)
theorem e_mul (ha : DE c Γ ω a (Ei P) ω1) (hb : DE c Γ ω1 b (Ei Q') ω2) (hc : ∀ i j, P i → Q' j → CMul i j) : DE c Γ ω (.BinOp a .Mult b pos) (Ei fun z => ∃ i j, P i ∧ Q' j ∧ z = i * j) ω2 := d_bin (fun _ => op_mul) ha hb (rr_EE fun i j h1 h2 => rr_I (hc i j h1 h2))
theorem e_div (ha : DE c Γ ω a (Ei P) ω1) (hb : DE c Γ ω1 b (Ei Q') ω2) (hc : ∀ i j, P i → Q' j → CDiv i j) : DE c Γ ω (.BinOp a .FloorDiv b pos) (Ei fun z => ∃ i j, P i ∧ Q' j ∧ z = i / j) ω2 := d_bin (fun _ => op_fdiv) ha hb (rr_EE fun i j h1 h2 => rr_I (hc i j h1 h2))
theorem e_mod (ha : DE c Γ ω a (Ei P) ω1) (hb : DE c Γ ω1 b (Ei Q') ω2) (hc : ∀ i j, P i → Q' j → 0 < j) : DE c Γ ω (.BinOp a .Mod b pos) (Ei fun z => ∃ i j, P i ∧ Q' j ∧ z = i % j) ω2 := d_bin (fun _ => op_mod) ha hb (rr_EE fun i j h1 h2 => rr_I (hc i j h1 h2))
theorem e_lt (ha : DE c Γ ω a (Ei P) ω1) (hb : DE c Γ ω1 b (Ei Q') ω2) : DT c Γ ω (.Compare a [.Lt] [b] pos) (fun z => ∃ i j, P i ∧ Q' j ∧ z = decide (i < j)) ω2 := t_cmp (fun _ _ => op_lt) ha hb (rr_ET fun _ _ _ _ => rr_I0) (nomark _)
theorem e_le (ha : DE c Γ ω a (Ei P) ω1) (hb : DE c Γ ω1 b (Ei Q') ω2) : DT c Γ ω (.Compare a [.LtE] [b] pos) (fun z => ∃ i j, P i ∧ Q' j ∧ z = decide (i ≤ j)) ω2 := t_cmp (fun _ _ => op_le) ha hb (rr_ET fun _ _ _ _ => rr_I0) (nomark _)
theorem e_gt (ha : DE c Γ ω a (Ei P) ω1) (hb : DE c Γ ω1 b (Ei Q') ω2) : DT c Γ ω (.Compare a [.Gt] [b] pos) (fun z => ∃ i j, P i ∧ Q' j ∧ z = decide (j < i)) ω2 := t_cmp (fun _ _ => op_gt) ha hb (rr_ET fun _ _ _ _ => rr_I0) (nomark _)
theorem e_ge (ha : DE c Γ ω a (Ei P) ω1) (hb : DE c Γ ω1 b (Ei Q') ω2) : DT c Γ ω (.Compare a [.GtE] [b] pos) (fun z => ∃ i j, P i ∧ Q' j ∧ z = decide (j ≤ i)) ω2 := t_cmp (fun _ _ => op_ge) ha hb (rr_ET fun _ _ _ _ => rr_I0) (nomark _)
theorem e_eqI (ha : DE c Γ ω a (Ei P) ω1) (hb : DE c Γ ω1 b (Ei Q') ω2) : DT c Γ ω (.Compare a [.Eq] [b] pos) (fun z => ∃ i j, P i ∧ Q' j ∧ z = decide (i = j)) ω2 := t_cmp (fun _ _ => op_eq) ha hb (rr_ET fun _ _ _ _ => by rw [← vint]; exact rr_eq rfl) (nomark _)
theorem e_neI (ha : DE c Γ ω a (Ei P) ω1) (hb : DE c Γ ω1 b (Ei Q') ω2) : DT c Γ ω (.Compare a [.NotEq] [b] pos) (fun z => ∃ i j, P i ∧ Q' j ∧ z = !decide (i = j)) ω2 := t_cmp (fun _ _ => op_ne) ha hb (rr_ET fun _ _ _ _ => by rw [← vint]; exact rr_ne rfl) (nomark _)
theorem e_min2 [Cold c] (ha : DE c Γ ω a (Ei P) ω1) (hb : DE c Γ ω1 b (Ei Q') ω2) (hm : c.M.mg "min" = none) (hg : Glo c.sc "min" := by exact rfl) (he : ∀ env, starEach [a, b] env = (false, eval a env) :: starEach [b] env := by intro _; rfl)
    (he2 : ∀ env, starEach [b] env = (false, eval b env) :: starEach [] env := by intro _; rfl) (hpl : ∀ env, (backTo pos (starEach [b] env)).any (·.1) = false := by intro _; rfl) : DE c Γ ω (.Call (.Name "min" p) [a, b] [] pos) (Ei fun z => ∃ i j, P i ∧ Q' j ∧ z = min i j) ω2 :=
  d_callB (fun _ fx => call_min2 fx.calm) hg hm PyProof.Rows.boot_min (a_cons ha (a_cons hb a_nil he2) he) (rc2 fun F ω B H v u h1 h2 O Q q => by
    obtain ⟨i, hi, h1⟩ := h1
    obtain ⟨j, hj, h2⟩ := h2
    have h1 : v = .int i := h1
    have h2 : u = .int j := h2
    subst h1 h2
    refine ⟨i, j, rfl, q _ B H (Ex.refl B) O ⟨_, ⟨i, j, hi, hj, rfl⟩, ?_⟩⟩
    show V.int _ = V.int _
    congr 1
    split <;> omega) (he := he) (hpl := hpl)
theorem e_max2 [Cold c] (ha : DE c Γ ω a (Ei P) ω1) (hb : DE c Γ ω1 b (Ei Q') ω2) (hm : c.M.mg "max" = none) (hg : Glo c.sc "max" := by exact rfl) (he : ∀ env, starEach [a, b] env = (false, eval a env) :: starEach [b] env := by intro _; rfl)
    (he2 : ∀ env, starEach [b] env = (false, eval b env) :: starEach [] env := by intro _; rfl) (hpl : ∀ env, (backTo pos (starEach [b] env)).any (·.1) = false := by intro _; rfl) : DE c Γ ω (.Call (.Name "max" p) [a, b] [] pos) (Ei fun z => ∃ i j, P i ∧ Q' j ∧ z = max i j) ω2 :=
  d_callB (fun _ fx => call_max2 fx.calm) hg hm PyProof.Rows.boot_max (a_cons ha (a_cons hb a_nil he2) he) (rc2 fun F ω B H v u h1 h2 O Q q => by
    obtain ⟨i, hi, h1⟩ := h1
    obtain ⟨j, hj, h2⟩ := h2
    have h1 : v = .int i := h1
    have h2 : u = .int j := h2
    subst h1 h2
    refine ⟨i, j, rfl, q _ B H (Ex.refl B) O ⟨_, ⟨i, j, hi, hj, rfl⟩, ?_⟩⟩
    show V.int _ = V.int _
    congr 1
    split <;> omega) (he := he) (hpl := hpl)
theorem e_ix {α : Type} {bb : Bool} {Rs : α → Sh} {xs : List α} (ha : DE c Γ ω a (Sq bb Rs xs) ω1) (hb : DE c Γ ω1 b (Ei P) ω2) (h : ∀ k, P k → 0 ≤ k ∧ k < xs.length) (hs : PlainIx b := by exact fun _ _ => rfl) : DE c Γ ω (.Subscript a b pos) (Es (fun y => ∃ k, P k ∧ L2.atI xs k = some y) Rs) ω2 := by
  intro X fx F σ B H hE hO Q hQ
  have at' : ∀ k, P k → ∃ y, L2.atI xs k = some y := fun k hk => by
    obtain ⟨h1, h2⟩ := h k hk
    obtain ⟨j, rfl⟩ := Int.eq_ofNat_of_zero_le h1
    exact ⟨_, atI_of rfl (List.getElem?_eq_getElem (by omega))⟩
  have go : ∀ (r : L2.R2), IxR X r → (∀ v u B2 H2, (Sq bb Rs xs).p B2 v → (Ei P).p B2 u → Ex B2 H2 → (∀ z, (Es (fun y => ∃ k, P k ∧ L2.atI xs k = some y) Rs).p B2 z → Q z H2) → r v u H2 Q) → tW X (.Subscript a b pos) σ H Q := fun r hr hh => by
    refine tW.of (pe_ix hr pe_w pe_w hs) ?_
    refine ha X fx F σ B H hE hO _ fun v B1 H1 e1 O1 p1 => ?_
    refine hb X fx F σ B1 H1 (hE.mono e1) O1 _ fun u B2 H2 e2 O2 p2 => ?_
    exact hh v u B2 H2 ((Sq bb Rs xs).mono e2 p1) p2 O2.ex fun z q => hQ z B2 H2 (e1.trans e2) O2 q
  cases bb with
  | true =>
    refine go _ ix_list fun v u B2 H2 p1 p2 e q => ?_
    obtain ⟨k, hk, p2⟩ := p2
    obtain ⟨y, hy⟩ := at' k hk
    obtain ⟨a', vs, rfl, h2, h3⟩ := sq_get p1 e
    obtain ⟨z, e1, e2⟩ := h3.atI hy
    exact ⟨a', vs, k, z, rfl, p2, SqL.of h2, e1, q z ⟨y, ⟨k, hk, hy⟩, e2⟩⟩
  | false =>
    refine go _ ix_tup fun v u B2 H2 p1 p2 e q => ?_
    obtain ⟨k, hk, p2⟩ := p2
    obtain ⟨y, hy⟩ := at' k hk
    obtain ⟨a', vs, rfl, h2, h3⟩ := sq_get p1 e
    obtain ⟨z, e1, e2⟩ := h3.atI hy
    exact ⟨a', vs, k, z, rfl, p2, SqT.of h2, e1, q z ⟨y, ⟨k, hk, hy⟩, e2⟩⟩
end
/-! ### what is drawn -/
def dr : Ct ((Addr × Addr) × Int) := { As := fun g => [At g.1.1, I g.2], pre := fun g => 0 < g.2 ∧ g.2 < 1073741824, S := fun g => Ei (fun r => 0 ≤ r ∧ r < g.2), ω := fun g => potW g.1.1 g.1.2, ω' := fun g => potW g.1.1 g.1.2 }
abbrev pw (p q : Addr) : Addr × Co := (p, Ce PotP (potA q))
abbrev qw (q : Addr) : Addr × Co := (q, potQ)
theorem d_draw {c : Cc} [Cold c] {Γ : En} {rest : Ws} {a b : Expr} {p q : Addr} {m : Int} {k : Nat} {x : Str} {pos px : Pos} (G : Gd c.M k x ["pot", "many"] dr) (hk : k ≤ c.k) (ha : DE c Γ (pw p q :: qw q :: rest) a (At p) (pw p q :: qw q :: rest)) (hb : DE c Γ (pw p q :: qw q :: rest) b (I m) (pw p q :: qw q :: rest)) (h : 0 < m ∧ m < 1073741824)
    (hg : Glo c.sc x := by exact rfl) (hdb : (x == ("__debug__" : Str)) = false := by decide) (he : ∀ env, starEach [a, b] env = (false, eval a env) :: starEach [b] env := by intro _; rfl) (he2 : ∀ env, starEach [b] env = (false, eval b env) :: starEach [] env := by intro _; rfl) (hpl : ∀ env, (backTo pos (starEach [b] env)).any (·.1) = false := by intro _; rfl) :
    DE c Γ (pw p q :: qw q :: rest) (.Call (.Name x px) [a, b] [] pos) (Ei fun r => 0 ≤ r ∧ r < m) (pw p q :: qw q :: rest) :=
  d_call (t := dr) (rest := rest) ((p, q), m) G hk (a_cons ha (a_cons hb a_nil he2) he) rfl h rfl hg hdb he hpl
/-- the number of things to draw from is itself known up to a word -/
theorem d_drawE {c : Cc} [Cold c] {Γ : En} {rest : Ws} {a b : Expr} {p q : Addr} {P : Int → Prop} {k : Nat} {x : Str} {pos px : Pos} (G : Gd c.M k x ["pot", "many"] dr) (hk : k ≤ c.k) (ha : DE c Γ (pw p q :: qw q :: rest) a (At p) (pw p q :: qw q :: rest)) (hb : DE c Γ (pw p q :: qw q :: rest) b (Ei P) (pw p q :: qw q :: rest)) (h : ∀ m, P m → 0 < m ∧ m < 1073741824)
    (hg : Glo c.sc x := by exact rfl) (hdb : (x == ("__debug__" : Str)) = false := by decide) (he : ∀ env, starEach [a, b] env = (false, eval a env) :: starEach [b] env := by intro _; rfl) (he2 : ∀ env, starEach [b] env = (false, eval b env) :: starEach [] env := by intro _; rfl) (hpl : ∀ env, (backTo pos (starEach [b] env)).any (·.1) = false := by intro _; rfl) :
    DE c Γ (pw p q :: qw q :: rest) (.Call (.Name x px) [a, b] [] pos) (Ei fun r => ∃ m, P m ∧ 0 ≤ r ∧ r < m) (pw p q :: qw q :: rest) := by
  obtain ⟨f, fd, hF, hm, hkp, hb'⟩ := G
  intro X fx F σ B H hE hO Q hQ
  have hF' : FnOk X.prog X.w X.K X.mg X.base CX0 k f fd ["pot", "many"] dr.sp := by rw [fx.prog, fx.w, fx.K, fx.mg, fx.base]; exact hF
  refine tW.of (pe_call (ds := []) (dvs := []) (E := E0) hF' (fx.room.mono hk) (gl_of fx hg) (by rw [fx.mg]; exact hm) (by rw [fx.K]; exact hkp) (by rw [fx.K]; exact hb') .nil pass0 pa_w hdb (he _) (hpl _)) ?_
  refine a_cons ha (a_cons hb a_nil he2) he X fx F σ B H hE hO _ fun vs B1 H1 e1 O1 p1 => ?_
  obtain ⟨v, u, rfl, h1, m, hm', h2⟩ := all2 p1
  refine ⟨((p, q), m), frame F rest H1, B1, h m hm', .cons h1 (.cons h2 .nil), (show Own F (potW p q ++ rest) B1 H1 from O1).focus, fun v B' H' e2 O2 p2 => ?_⟩
  obtain ⟨y, hy, p2⟩ := p2
  exact hQ v B' H' (e1.trans e2) ((show Own F (potW p q ++ rest) B1 H1 from O1).unfocus e2 O2 rfl) ⟨y, ⟨m, hm', hy⟩, p2⟩
theorem tab_last {α : Type} {f : Nat → α} {n : Nat} : L2.atI (tab f (n + 1)) (-1) = some (f n) := by rw [tab_succ]; exact atI_last _ _
theorem ds_setiE {c : Cc} {X : Cx} {B0 F : Hp} {D : Ends} {Γ : En} {ω ω1 ω2 ω3 : Ws} {e o i : Expr} {rest : List Stmt} {pos p : Pos} {l : Addr} {α : Type} {P : α → Prop} {Rs : α → Sh} {xs : List α} {kk : Int} {j : Nat} (he : DE c Γ ω e (Es P Rs) ω1) (ho : DE c Γ ω1 o (At l) ω2) (hi : DE c Γ ω2 i (I kk) ω3) (hj : ixN xs.length kk = some j) (k : ∀ y, P y → ∃ ωo, Swp ω3 l (Cl Rs xs) (Cl Rs (xs.set j y)) ωo ∧ DS c X B0 F D Γ ωo rest)
    (hss : ∀ env, swapsWithSole [.Subscript o i p] e pos.line env = pure false := by intro _; rfl) (hw : ∀ env, swappedStores [.Subscript o i p] e env = pure none := by intro _; rfl)
    (ha : ∀ env v, assign (.Subscript o i p) env v = (do
      let ov ← holding [v] (eval o env)
      let iv ← holding [v, ov] (eval i env)
      standAt p
      holding [v, ov, iv] (setItem ov iv v)
      release [v, ov, iv] []) := by intro _ _; rfl) : DS c X B0 F D Γ ω (.Assign [.Subscript o i p] e pos :: rest) := by
  intro fx σ B H hB hE hO
  refine tS.cons (ps_asg pe_w (pg_sub pe_w pe_w set_list (ha _)) (hss _) (hw _) (by rfl)) ?_
  refine he X fx F σ B H hE hO _ fun v B1 H1 e1 O1 p1 => ?_
  refine ho X fx F σ B1 H1 (hE.mono e1) O1 _ fun v2 B2 H2 e2 O2 p2 => ?_
  refine hi X fx F σ B2 H2 (hE.mono (e1.trans e2)) O2 _ fun v3 B3 H3 e3 O3 p3 => ?_
  obtain ⟨y, hy, p1⟩ := p1
  obtain ⟨ωo, hs, k⟩ := k y hy
  obtain ⟨_, _, o', h2, us, rfl, h3⟩ := O3.ow _ _ hs.mem
  refine ⟨l, us, kk, j, p2, p3, h2, by rw [h3.len]; exact hj, ?_⟩
  exact k fx σ B3 _ (((hB.trans e1).trans e2).trans e3) (hE.mono ((e1.trans e2).trans e3)) (O3.swp hs ⟨_, rfl, All2.set (R := fun v x => (Rs x).p B3 v) ((Rs y).mono (e2.trans e3) p1) j h3⟩)
end ZZ

set_option maxHeartbeats 2000000
/-! Z10: a lent list; calls that draw; lists of things known up to a word. -/
namespace ZZ
open PySem PySem.Spec PyProof.Rows L2
open Evl (Ex)
def Flat (C : Co) : Prop := ∀ B B' o, C.p B o → C.p B' o
theorem flat_potQ : Flat potQ := fun B B' o h => by
  obtain ⟨ns, h1, vs, rfl, h2⟩ := h
  exact ⟨ns, h1, vs, rfl, h2.mp fun _ _ q => q⟩
theorem flat_potA {q : Addr} : Flat (Ce PotP (potA q)) := fun B B' o h => by
  obtain ⟨ab, h1, vs, rfl, h2⟩ := h
  refine ⟨ab, h1, vs, rfl, ?_⟩
  cases h2 with | cons a h2 => cases h2 with | cons b h2 => cases h2 with | cons c h2 => cases h2; exact .cons a (.cons b (.cons c .nil))
theorem flat_pot {p q : Addr} : ∀ e ∈ ([pw p q, qw q] : Ws), Flat e.2 := fun e he => by
  rcases List.mem_cons.mp he with rfl | he
  · exact flat_potA
  · rw [List.mem_singleton.mp he]; exact flat_potQ
theorem Tak.split {ω ω1 : Ws} {l m : Addr} {C D : Co} (t : Tak ω l C ω1) (h : (m, D) ∈ ω) : (m, D) = (l, C) ∨ (m, D) ∈ ω1 := by
  induction t with
  | z => exact (List.mem_cons.mp h).imp id id
  | s t ih =>
    rcases List.mem_cons.mp h with z | z
    · exact .inr (List.mem_cons.mpr (.inl z))
    · exact (ih z).imp id fun q => List.mem_cons_of_mem _ q
theorem Tak.has {ω ω1 : Ws} {l a : Addr} {C : Co} (t : Tak ω l C ω1) (h : a ∉ ω.map (·.1)) : a ≠ l ∧ a ∉ ω1.map (·.1) :=
  ⟨fun z => h (z ▸ mem_addr t.mem), fun z => h (by
    obtain ⟨⟨m, D⟩, hm, rfl⟩ := List.mem_map.mp z
    exact mem_addr (t.sub hm))⟩
/-- an owned list is read as one that is never changed, and is owned again -/
theorem t_borrow {c : Cc} {Γ Γ1 : En} {ω ω1 : Ws} {x : Str} {l : Addr} {α : Type} {Rs : α → Sh} {xs : List α} {e : Expr} {R : Bool → Prop} (hu : Upg Γ x (At l) (L Rs xs) Γ1) (ht : Tak ω l (Cl Rs xs) ω1) (hfl : ∀ e ∈ ω1, Flat e.2) (hd : DT c Γ1 ω1 e R ω1) : DT c Γ ω e R ω := by
  intro X fx F σ B H hE hO Q hQ
  obtain ⟨o, h1, h3, O2, e2⟩ := hO.freeze ht
  obtain ⟨hb, hf, _⟩ := hO.ow _ _ ht.mem
  have h3' := h3
  obtain ⟨vs, rfl, h4⟩ := h3
  refine hd X (fx.re hu.names) F σ (upd B l (.lst vs)) H (hu.env (fun v hv => ?_) (hE.mono e2)) O2 Q fun b B2 H2 e3 O3 hr => ?_
  · exact ⟨l, vs, hv, upd_same, h4.mp fun _ s q => (Rs s).mono e2 q⟩
  · have hl : B2 l = some (.lst vs) := e3 _ _ upd_same
    have eB : Ex B (fun a => if a = l then none else B2 a) := fun a o' h => by
      have hne : a ≠ l := fun z => by rw [z, hb] at h; cases h
      show (if a = l then none else B2 a) = some o'
      rw [if_neg hne]
      exact e3 _ _ (by rw [upd_ne hne]; exact h)
    refine hQ b _ H2 eB ⟨hO.nd, fun m D hm => ?_, fun a ha => ?_⟩ hr
    · rcases ht.split hm with z | z
      · cases z
        exact ⟨if_pos rfl, hf, .lst vs, O3.ex _ _ hl, (Cl Rs xs).mono eB h3'⟩
      · obtain ⟨q1, q2, o', q3, q4⟩ := O3.ow m D z
        have hne : m ≠ l := fun y => by rw [y, hl] at q1; cases q1
        exact ⟨by show (if m = l then none else B2 m) = none; rw [if_neg hne]; exact q1, q2, o', q3, hfl _ z _ _ _ q4⟩
    · obtain ⟨z1, z2⟩ := ht.has ha
      obtain ⟨q1, q2⟩ := O3.fr a z2
      show ((if a = l then none else B2 a) = none ∨ F a = none) ∧ H2 a = (if a = l then none else B2 a).or (F a)
      rw [if_neg z1]
      exact ⟨q1, q2⟩
section
variable {c : Cc} {Γ : En} {ω ω1 rest : Ws} {e : Expr} {es : List Expr} {x : Str} {p q : Addr} {pos px : Pos} {S : Sh}
/-- a call that draws; the arguments may be known up to a word -/
theorem d_callX [Cold c] {τ : Type} {t : Ct τ} {k : Nat} {ps : List Str} {ss : List Sh} (G : Gd c.M k x ps t) (hk : k ≤ c.k) (ha : DA c Γ ω (e :: es) ss (pw p q :: qw q :: rest))
    (h : ∀ B vs, All2 (fun v (s : Sh) => s.p B v) vs ss → ∃ g, t.pre g ∧ All2 (fun v (s : Sh) => s.p B v) vs (t.As g) ∧ t.ω g = potW p q ∧ t.ω' g = potW p q ∧ Sle (t.S g) S)
    (hg : Glo c.sc x := by exact rfl) (hdb : (x == ("__debug__" : Str)) = false := by decide) (he : ∀ env, starEach (e :: es) env = (false, eval e env) :: starEach es env := by intro _; rfl) (hpl : ∀ env, (backTo pos (starEach es env)).any (·.1) = false := by intro _; rfl) :
    DE c Γ ω (.Call (.Name x px) (e :: es) [] pos) S (pw p q :: qw q :: rest) := by
  obtain ⟨f, fd, hF, hm, hkp, hb'⟩ := G
  intro X fx F σ B H hE hO Q hQ
  have hF' : FnOk X.prog X.w X.K X.mg X.base CX0 k f fd ps t.sp := by rw [fx.prog, fx.w, fx.K, fx.mg, fx.base]; exact hF
  refine tW.of (pe_call (ds := []) (dvs := []) (E := E0) hF' (fx.room.mono hk) (gl_of fx hg) (by rw [fx.mg]; exact hm) (by rw [fx.K]; exact hkp) (by rw [fx.K]; exact hb') .nil pass0 pa_w hdb (he _) (hpl _)) ?_
  refine ha X fx F σ B H hE hO _ fun vs B1 H1 e1 O1 p1 => ?_
  obtain ⟨g, h1, h2, h3, h4, h5⟩ := h B1 vs p1
  refine ⟨g, frame F rest H1, B1, h1, by rw [List.append_nil]; exact h2, by rw [h3]; exact (show Own F (potW p q ++ rest) B1 H1 from O1).focus, fun v B' H' e2 O2 p2 => ?_⟩
  rw [h4] at O2
  exact hQ v B' H' (e1.trans e2) ((show Own F (potW p q ++ rest) B1 H1 from O1).unfocus e2 O2 rfl) (h5 _ _ p2)
theorem d_callK [Cold c] {τ : Type} {t : Ct τ} {k : Nat} {ps : List Str} {ss : List Sh} (g : τ) (G : Gd c.M k x ps t) (hk : k ≤ c.k) (ha : DA c Γ ω (e :: es) ss (pw p q :: qw q :: rest)) (hs : ss = t.As g) (hp : t.pre g) (h3 : t.ω g = potW p q := by rfl) (h4 : t.ω' g = potW p q := by rfl)
    (hg : Glo c.sc x := by exact rfl) (hdb : (x == ("__debug__" : Str)) = false := by decide) (he : ∀ env, starEach (e :: es) env = (false, eval e env) :: starEach es env := by intro _; rfl) (hpl : ∀ env, (backTo pos (starEach es env)).any (·.1) = false := by intro _; rfl) :
    DE c Γ ω (.Call (.Name x px) (e :: es) [] pos) (t.S g) (pw p q :: qw q :: rest) :=
  d_callX G hk ha (fun B vs h => ⟨g, hp, hs ▸ h, h3, h4, Sle.refl⟩) hg hdb he hpl
/-- a list of things that all answer P -/
theorem d_lstE {α : Type} {P : α → Prop} {R : α → Sh} (n : Nat) (h : DA c Γ ω es (List.replicate n (Es P R)) ω1) (hn : n ≤ sizeLine := by show _ ≤ 16777216; decide) : DE c Γ ω (.List es pos) (Es (fun xs => xs.length = n ∧ ∀ x ∈ xs, P x) (L R)) ω1 := by
  have key : ∀ {B : Hp} {n : Nat} {vs : List V}, All2 (fun v (s : Sh) => s.p B v) vs (List.replicate n (Es P R)) → ∃ xs : List α, (xs.length = n ∧ ∀ x ∈ xs, P x) ∧ All2 (fun v x => (R x).p B v) vs xs := fun {B} n => by
    induction n with
    | zero => intro vs h; cases h; exact ⟨[], ⟨rfl, fun _ h => absurd h (by simp)⟩, .nil⟩
    | succ n ih =>
      intro vs h
      cases h with | cons p h =>
      obtain ⟨y, hy, p⟩ := p
      obtain ⟨xs, ⟨h1, h2⟩, h3⟩ := ih h
      exact ⟨y :: xs, ⟨by simp [h1], fun x hx => (List.mem_cons.mp hx).elim (fun z => z ▸ hy) (h2 x)⟩, .cons p h3⟩
  intro X fx F σ B H hE hO Q hQ
  refine tW.of (pe_lst pa_w) ?_
  refine h X fx F σ B H hE hO _ fun vs B1 H1 e1 O1 p1 => ⟨by rw [p1.len, List.length_replicate]; exact hn, fun p hp => ?_⟩
  obtain ⟨xs, hxs, q⟩ := key p1
  obtain ⟨O2, e2⟩ := O1.new (o := .lst vs) hp
  exact hQ _ _ _ (e1.trans e2) O2 ⟨xs, hxs, p, vs, rfl, upd_same, q.mp fun _ s q => (R s).mono e2 q⟩
end
/-- a def's body, as the judge's head asks for it -/
theorem gd_fn {τ : Type} {t : Ct τ} {M : Mo} {k : Nat} {x qual : Str} {st : Stmt} {f : Addr} {fd : FuncData} {N ps : List Str} (F : Fun M.K x qual st f fd) (S : FnScope N ps (defScope st)) (hlen : ∀ g, (t.As g).length = ps.length)
    (hbody : ∀ (X : Cx) (B0 F0 : Hp) (D : Ends) (g : τ), t.pre g → Rt B0 F0 D.rt (t.S g) (t.ω' g) → (∀ σ H, D.rt .non H → D.nx σ H) → DS ⟨M, defScope st, k, true, false⟩ X B0 F0 D (mkΓ N (t.As g)) (t.ω g) (defBody st)) : FnOk M.P M.w M.K M.mg M.base CX0 (k + 1) f fd ps t.sp := by
  refine F.ok S (fun vs H Q E h => ?_) (fun cdv A outer s H vs Q E hr h => ?_)
  · obtain ⟨g, _, _, _, h2, _⟩ := h
    rw [h2.len, hlen]
  · obtain ⟨g, F0, B, hp, hv, hO, hQ⟩ := h
    have hl : ps.length ≤ N.length := by have := congrArg List.length S.pre; rw [List.length_take] at this; omega
    refine ⟨_, pss_w, hbody _ B F0 _ g hp (fun v B' H' e1 O1 p1 => hQ v B' H' e1 O1 p1) (fun _ _ h => h) ?_ _ B H (Ex.refl B) (mk_env N _ vs hv (by rw [hlen]; exact hl)) hO⟩
    rw [mk_names]
    exact ⟨rfl, rfl, rfl, rfl, rfl, rfl, rfl, S.nd, fun _ => rfl, fun _ => hr, L2H.roomH_of hr, (fun h => nomatch h), fun _ _ _ => rfl, PassesOwn.never⟩
theorem own_nil {H : Hp} : Own (fun _ => none) [] H H := ⟨List.nodup_nil, fun _ _ h => absurd h (by simp), fun a _ => ⟨.inr rfl, by cases H a <;> rfl⟩⟩
/-- what the law asks of its script -/
def lawC (K : PySem.W.Frag) (n : Nat) : Ct (List Int) := { As := fun ns => [Sk K ns], pre := fun ns => ns.length ≤ n, S := fun _ => Bo true }
theorem law_sp {K : PySem.W.Frag} {n : Nat} {H : Hp} {a : Addr} {ns : List Int} {E : XK} (hl : ns.length ≤ n) (hS : SqL K H a (ns.map V.int)) : (lawC K n).sp [.ref a] H (fun v _ => v = .bl true) E :=
  ⟨ns, fun _ => none, H, hl, .cons ⟨a, rfl, hS⟩ .nil, own_nil, fun _ _ _ _ _ p => p⟩
end ZZ

set_option maxHeartbeats 2000000
/-! Z11: further words: other targets, +=, powers, most and least of a list, sorted, all, gcd, pop, reverse. -/
namespace ZZ
open PySem PySem.Spec PyProof.Rows L2
open Evl (Ex)
theorem All2.snoc {α β : Type} {R : α → β → Prop} {y : β} : ∀ {vs : List α} {xs : List β}, All2 R vs (xs ++ [y]) → ∃ us u, vs = us ++ [u] ∧ All2 R us xs ∧ R u y
  | _, [], .cons h t => by cases t; exact ⟨[], _, rfl, .nil, h⟩
  | _, x :: xs, .cons h t => by
    obtain ⟨us, u, rfl, q1, q2⟩ := All2.snoc (xs := xs) t
    exact ⟨_ :: us, u, rfl, .cons h q1, q2⟩
theorem all_i {B : Hp} : ∀ {vs : List V} {ns : List Int}, All2 (fun v x => (I x).p B v) vs ns → vs = ns.map V.int
  | _, _, .nil => rfl
  | _, n :: _, .cons h t => by rw [all_i t, show _ = V.int n from h]; rfl
theorem all_b {B : Hp} : ∀ {vs : List V} {ns : List Bool}, All2 (fun v x => (Bo x).p B v) vs ns → vs = ns.map V.bl
  | _, _, .nil => rfl
  | _, n :: _, .cons h t => by rw [all_b t, show _ = V.bl n from h]; rfl
theorem All2.rev {α β : Type} {R : α → β → Prop} : ∀ {vs : List α} {xs : List β}, All2 R vs xs → All2 R vs.reverse xs.reverse
  | _, _, .nil => .nil
  | _, _, .cons h t => by
    rw [List.reverse_cons, List.reverse_cons]
    exact t.rev.append (.cons h .nil)
section
variable {c : Cc} {X : Cx} {B0 F : Hp} {D : Ends} {Γ Γ1 : En} {ω ω1 ω2 : Ws} {e a b o tg : Expr} {es : List Expr} {S : Sh} {rest : List Stmt} {pos p px : Pos} {x : Str} {i j : Int} {α : Type} {Rs : α → Sh} {xs : List α} {y : α} {l : Addr} {ns : List Int} {m : Int}
/-- any target -/
theorem ds_asgG {nm : List Str} (he : DE c Γ ω e S ω1) (hg : DG c tg nm S Γ Γ1) (k : DS c X B0 F D Γ1 ω1 rest)
    (hs : ∀ env, swapsWithSole [tg] e pos.line env = pure false := by intro _; rfl) (hw : ∀ env, swappedStores [tg] e env = pure none := by intro _; rfl) (h1 : ∀ env, (assignEach [tg] env).map (·.2) = [assign tg env] := by intro _; rfl) : DS c X B0 F D Γ ω (.Assign [tg] e pos :: rest) := by
  intro fx σ B H hB hE hO
  refine tS.cons (ps_asg pe_w pg_w (hs _) (hw _) (h1 _)) ?_
  refine he X fx F σ B H hE hO _ fun v B1 H1 e1 O1 p1 => ?_
  refine hg.2 X fx σ B1 H1 v (hE.mono e1) O1.ex p1 _ fun σ1 hE1 _ => ?_
  exact k (fx.re hg.1) σ1 B1 H1 (hB.trans e1) hE1 O1
/-- x += e, x -= e, of ints -/
theorem ds_augI {op : Operator} {f : Int → Int → Int} (ho : ∀ X, PIp X op (ipI f)) (hh : Has Γ x (I i)) (he : DE c Γ ω e (I j) ω1) (hp : Put Γ x (some (I (f i j))) Γ1) (k : DS c X B0 F D Γ1 ω1 rest) (hl : Lo c x := by first | exact Or.inl rfl | exact Or.inr ⟨rfl, rfl⟩) :
    DS c X B0 F D Γ ω (.AugAssign (.Name x px) op e pos :: rest) := by
  intro fx σ B H hB hE hO
  obtain ⟨jx, h1, h2⟩ := hp.set
  obtain ⟨ix, v, g1, g2, g3⟩ := hh.get hE
  have ee : ix = jx := nodup_ix fx.nd g1 h1
  subst ee
  refine tS.cons (ps_aug (i := ix) (by rw [fx.ns]; exact fx.nd) (by rw [fx.ns]; exact h1) (fx.lo hl).1 pe_w (ho X) (fx.lo hl).2) ?_
  refine ⟨v, g2, he X fx F σ B H hE hO _ fun u B1 H1 e1 O1 p1 => ⟨i, j, g3, p1, ?_⟩⟩
  exact k (fx.re hp.names) _ B1 H1 (hB.trans e1) (h2 _ _ _ (hE.mono e1) rfl) O1
theorem ds_augAdd (hh : Has Γ x (I i)) (he : DE c Γ ω e (I j) ω1) (hp : Put Γ x (some (I (i + j))) Γ1) (k : DS c X B0 F D Γ1 ω1 rest) (hl : Lo c x := by first | exact Or.inl rfl | exact Or.inr ⟨rfl, rfl⟩) : DS c X B0 F D Γ ω (.AugAssign (.Name x px) .Add e pos :: rest) := ds_augI (f := fun i j => i + j) (fun _ => ip_add) hh he hp k hl
theorem ds_augSub (hh : Has Γ x (I i)) (he : DE c Γ ω e (I j) ω1) (hp : Put Γ x (some (I (i - j))) Γ1) (k : DS c X B0 F D Γ1 ω1 rest) (hl : Lo c x := by first | exact Or.inl rfl | exact Or.inr ⟨rfl, rfl⟩) : DS c X B0 F D Γ ω (.AugAssign (.Name x px) .Sub e pos :: rest) := ds_augI (f := fun i j => i - j) (fun _ => ip_sub) hh he hp k hl
theorem d_pow (ha : DE c Γ ω a (I i) ω1) (hb : DE c Γ ω1 b (I j) ω2) (hc : CPow i j) : DE c Γ ω (.BinOp a .Pow b pos) (I (i ^ j.toNat)) ω2 := d_bin (fun _ => op_pow) ha hb (rr_I hc)
theorem d_maxL [Cold c] (ha : DE c Γ ω a (L I ns) ω1) (hm1 : m ∈ ns) (hm2 : ∀ y ∈ ns, y ≤ m) (hm : c.M.mg "max" = none) (hg : Glo c.sc "max" := by exact rfl) (he : ∀ env, starEach [a] env = (false, eval a env) :: starEach [] env := by intro _; rfl) : DE c Γ ω (.Call (.Name "max" p) [a] [] pos) (I m) ω1 :=
  d_callB (r := rMax c.M.K) (fun X fx => by rw [← fx.K]; exact cr_max fx.calm) hg hm PyProof.Rows.boot_max (a_cons ha a_nil he) (rc1 fun F ω B H v hv O Q q => by
    obtain ⟨a1, us, rfl, g1, g2⟩ := sq_get hv O.ex
    have e : us = ns.map V.int := all_i g2
    subst e
    exact ⟨a1, ns, rfl, SqL.of g1, List.length_pos_of_mem hm1, fun z hz hz2 => by
      have e : z = m := Int.le_antisymm (hm2 z hz) (hz2 m hm1)
      subst e
      exact q _ B H (Ex.refl B) O rfl⟩) (he := he)
theorem d_minL [Cold c] (ha : DE c Γ ω a (L I ns) ω1) (hm1 : m ∈ ns) (hm2 : ∀ y ∈ ns, m ≤ y) (hm : c.M.mg "min" = none) (hg : Glo c.sc "min" := by exact rfl) (he : ∀ env, starEach [a] env = (false, eval a env) :: starEach [] env := by intro _; rfl) : DE c Γ ω (.Call (.Name "min" p) [a] [] pos) (I m) ω1 :=
  d_callB (r := rMin c.M.K) (fun X fx => by rw [← fx.K]; exact cr_min fx.calm) hg hm PyProof.Rows.boot_min (a_cons ha a_nil he) (rc1 fun F ω B H v hv O Q q => by
    obtain ⟨a1, us, rfl, g1, g2⟩ := sq_get hv O.ex
    have e : us = ns.map V.int := all_i g2
    subst e
    exact ⟨a1, ns, rfl, SqL.of g1, List.length_pos_of_mem hm1, fun z hz hz2 => by
      have e : z = m := Int.le_antisymm (hz2 m hm1) (hm2 z hz)
      subst e
      exact q _ B H (Ex.refl B) O rfl⟩) (he := he)
theorem d_allB [Cold c] {bs : List Bool} (ha : DE c Γ ω a (L Bo bs) ω1) (hm : c.M.mg "all" = none) (hg : Glo c.sc "all" := by exact rfl) (he : ∀ env, starEach [a] env = (false, eval a env) :: starEach [] env := by intro _; rfl) : DE c Γ ω (.Call (.Name "all" p) [a] [] pos) (Bo (bs.all id)) ω1 :=
  d_callB (r := rAll c.M.K) (fun X fx => by rw [← fx.K]; exact cr_all fx.calm) hg hm (by decide +kernel) (a_cons ha a_nil he) (rc1 fun F ω B H v hv O Q q => by
    obtain ⟨a1, us, rfl, g1, g2⟩ := sq_get hv O.ex
    have e : us = bs.map V.bl := all_b g2
    subst e
    exact ⟨a1, bs, rfl, SqL.of g1, q _ B H (Ex.refl B) O rfl⟩) (he := he)
theorem n_sorted (ha : DE c Γ ω a (L I ns) ω1) (hm : c.M.mg "sorted" = none) (hg : Glo c.sc "sorted" := by exact rfl) (he : ∀ env, starEach [a] env = (false, eval a env) :: starEach [] env := by intro _; rfl) :
    DNE c Γ ω (.Call (.Name "sorted" p) [a] [] pos) (fun ys => ys.Perm ns ∧ ys.Pairwise (· ≤ ·)) I ω1 := by
  intro X fx F σ B H hE hO Q hQ
  refine tW.of (pe_callB cr_sortedI (gl_of fx hg) (by rw [fx.mg]; exact hm) (by decide +kernel) pa_w (he := he _)) ?_
  refine a_cons ha a_nil he X fx F σ B H hE hO _ fun vs B1 H1 e1 O1 p1 => ?_
  obtain ⟨v, rfl, hv⟩ := all1 p1
  obtain ⟨a1, us, rfl, g1, g2⟩ := sq_get hv O1.ex
  have e : us = ns.map V.int := all_i g2
  subst e
  refine ⟨a1, ns, rfl, SqL.of g1, fun ys l h1 h2 hl => ?_⟩
  exact hQ l ys _ _ ⟨h1, h2⟩ e1 (O1.add hl (C := Cl I ys) ⟨_, rfl, all_ints ys⟩)
theorem d_gcd (ha : DE c Γ ω a (I i) ω1) (hb : DE c Γ ω1 b (I j) ω2) (hm : c.M.mg x = some (.builtin "math.gcd")) (hg : Glo c.sc x := by exact rfl) (hdb : (x == ("__debug__" : Str)) = false := by decide) (he : ∀ env, starEach [a, b] env = (false, eval a env) :: starEach [b] env := by intro _; rfl)
    (he2 : ∀ env, starEach [b] env = (false, eval b env) :: starEach [] env := by intro _; rfl) (hpl : ∀ env, (backTo pos (starEach [b] env)).any (·.1) = false := by intro _; rfl) : DE c Γ ω (.Call (.Name x p) [a, b] [] pos) (I ((Nat.gcd i.natAbs j.natAbs : Nat) : Int)) ω2 := by
  intro X fx F σ B H hE hO Q hQ
  refine tW.of (pe_callBfun cr_gcd (gl_of fx hg) (by rw [fx.mg]; exact hm) pa_w hdb (he _) (hpl _)) ?_
  refine a_cons ha (a_cons hb a_nil he2) he X fx F σ B H hE hO _ fun vs B1 H1 e1 O1 p1 => ?_
  obtain ⟨v, u, rfl, h1, h2⟩ := all2 p1
  exact ⟨i, j, by rw [show v = V.int i from h1, show u = V.int j from h2], hQ _ B1 H1 e1 O1 rfl⟩
/-- xs.pop() of an owned list -/
theorem d_pop {apos cpos : Pos} (ho : DE c Γ ω o (At l) ω) (hs : Swp ω l (Cl Rs (xs ++ [y])) (Cl Rs xs) ω1) (hb : ∀ env, attributeBase o "pop" env (eval o env) = eval o env := by intro _; rfl) (hln : (apos.endLine == cpos.line) = true := by rfl) :
    DE c Γ ω (.Call (.Attribute o "pop" apos) [] [] cpos) (Rs y) ω1 := by
  intro X fx F σ B H hE hO Q hQ
  refine tW.of (pe_bm0 PySem.F.plainAttrs_list PySem.F.slot_list_pop PySem.F.type_list_pop mt_pop pe_w (hb _) hln) ?_
  refine ho X fx F σ B H hE hO _ fun v B1 H1 e1 O1 p1 => ?_
  have p1 : v = .ref l := p1
  subst p1
  obtain ⟨_, _, o', h2, us, rfl, h3⟩ := O1.ow _ _ hs.mem
  obtain ⟨vs, u, rfl, q1, q2⟩ := h3.snoc
  refine ⟨.inl ⟨rfl, _, SqL.of h2⟩, l, _, u, rfl, rfl, h2, by simp, ?_⟩
  rw [List.dropLast_concat]
  exact hQ u B1 _ e1 (O1.swp hs ⟨_, rfl, q1⟩) q2
/-- xs.reverse() of an owned list -/
theorem ds_rev {apos cpos : Pos} (ho : DE c Γ ω o (At l) ω) (hs : Swp ω l (Cl Rs xs) (Cl Rs xs.reverse) ω1) (k : DS c X B0 F D Γ ω1 rest) (hb : ∀ env, attributeBase o "reverse" env (eval o env) = eval o env := by intro _; rfl) (hln : (apos.endLine == cpos.line) = true := by rfl)
    (hsw : ∀ env, swapsWith (.Call (.Attribute o "reverse" apos) [] [] cpos) none pos.line env = pure false := by intro _; rfl) : DS c X B0 F D Γ ω (.Expr (.Call (.Attribute o "reverse" apos) [] [] cpos) pos :: rest) := by
  intro fx σ B H hB hE hO
  refine tS.cons (ps_expr (pe_bm0 PySem.F.plainAttrs_list PySem.F.slot_list_reverse PySem.F.type_list_reverse mt_reverse pe_w (hb _) hln) (hsw _)) ?_
  refine ho X fx F σ B H hE hO _ fun v B1 H1 e1 O1 p1 => ?_
  have p1 : v = .ref l := p1
  subst p1
  obtain ⟨_, _, o', h2, us, rfl, h3⟩ := O1.ow _ _ hs.mem
  refine ⟨.inl ⟨rfl, _, SqL.of h2⟩, l, _, rfl, rfl, h2, ?_⟩
  exact k fx σ B1 _ (hB.trans e1) (hE.mono e1) (O1.swp hs ⟨_, rfl, h3.rev⟩)
/-- break: what comes behind the loop -/
theorem ds_brkF {D' : Ends} {rst : List Stmt} (hD : D.bk = tS X rst D') (k : DS c X B0 F D' Γ ω rst) : DS c X B0 F D Γ ω (.Break pos :: rest) := by
  intro fx σ B H hB hE hO
  refine ds_brk (fun σ' B' H' h1 h2 h3 => ?_) fx σ B H hB hE hO
  rw [hD]
  exact k fx σ' B' H' h1 h2 h3
end
end ZZ

set_option maxHeartbeats 2000000
/-! Z12: sum and sorted of a tuple. -/
namespace ZZ
open PySem PySem.Spec PyProof.Rows L2
open Evl (Ex)
def rSumB (bb : Bool) : List V → Hp → VK → Prop := fun vs H Q => ∃ (a : Addr) (ns : List Int), vs = [V.ref a] ∧ H a = some (hoB bb (ns.map V.int)) ∧ Q (.int ns.sum) H
theorem cr_sumT {X : Cx} (hc : X.calm = true) : CallR X (.builtin "sum") (rSumB false) := by
  intro pins s σ H vs us Q I r h
  obtain ⟨a, ns, rfl, hs, q⟩ := h
  obtain ⟨its, rv, ht, _⟩ := src_ob I hs
  rw [Vals.ref1 r]
  have ht : s.heap.IsTuple a its.toArray := ht
  obtain ⟨xs, e⟩ := rv.ints.allInts.items
  have hn : numsOf (intItems xs).toList = ns := e ▸ rv.ints.numsOf
  rw [nums_intItems] at hn
  rw [e] at ht
  refine PySem.W.ktm_sumG (I.ok.hd hc) ht fun h' tk t' hk => ⟨.int _, H, I.kept hk, ⟨_, rfl⟩, ?_⟩
  have e2 : preSum (numAt xs) xs.size = ns.sum := by
    rw [preSum_eq, List.take_of_length_le (by simp)]
    exact congrArg List.sum hn
  rw [e2]
  exact q
section
variable {c : Cc} {Γ : En} {ω ω1 : Ws} {a : Expr} {pos p : Pos} {bb : Bool} {ns : List Int}
theorem d_sumB [Cold c] (ha : DE c Γ ω a (Sq bb I ns) ω1) (hm : c.M.mg "sum" = none) (hg : Glo c.sc "sum" := by exact rfl) (he : ∀ env, starEach [a] env = (false, eval a env) :: starEach [] env := by intro _; rfl) : DE c Γ ω (.Call (.Name "sum" p) [a] [] pos) (I ns.sum) ω1 := by
  cases bb with
  | true => exact d_sum ha hm hg he
  | false =>
    refine d_callB (r := rSumB false) (fun X fx => cr_sumT fx.calm) hg hm PyProof.Rows.boot_sum (a_cons ha a_nil he) (rc1 fun F ω B H v hv O Q q => ?_) (he := he)
    obtain ⟨a1, us, rfl, g1, g2⟩ := sq_ho hv
    have e := all_i g2
    subst e
    exact ⟨a1, ns, rfl, O.ex _ _ g1, q _ B H (Ex.refl B) O rfl⟩
end
/-! ### sorted of a tuple of numbers -/
def rSortedB (bb : Bool) : List V → Hp → VK → Prop := fun vs H Q => ∃ (a : Addr) (ns : List Int), vs = [V.ref a] ∧ H a = some (hoB bb (ns.map V.int)) ∧ ∀ (ys : List Int) (l : Addr), ys.Perm ns → ys.Pairwise (· ≤ ·) → H l = none → Q (.ref l) (upd H l (.lst (ys.map V.int)))
theorem cr_sortedT {X : Cx} : CallR X (.builtin "sorted") (rSortedB false) := by
  intro pins s σ H vs us Q I r h
  obtain ⟨a, ns, rfl, hs, q⟩ := h
  obtain ⟨its, rv, ht, hz⟩ := src_ob I hs
  rw [Vals.ref1 r]
  have hz2 : its.length ≤ sizeLine := by rw [← rv.length]; exact hz
  obtain ⟨o, ho, hcls, n, hd⟩ := (show s.heap.IsTuple a its.toArray from ht)
  have hi := rv.ints
  refine Calls.call_function_entry kind_sorted plain_sorted entry_sorted (args_sorted1 _) (show wpAny _ _ (Builtin.«sorted» _) _ _ _ from ?_)
  unfold Builtin.«sorted»
  refine wpAny_bind (m := checkCount "sorted" 1 1 _) (wpAny_pure (wpAny_bind (wpAny_collect_seq a (.inr rfl) ho hcls hd (fun h1 k1 => ?_) (by rw [List.size_toArray]; exact hz2))))
  refine wpAny_bind (wpAny_newList ?_ hz2)
  have g1 : (h1.push (seqObj "list" its.toArray 0)).get? h1.objs.size = some (seqObj "list" its.toArray 0) := Heap.get?_push_size _ rfl
  refine wpAny_bind (wpAny_holding (wpAny_call_entry slot_list_sort ⟨_, g1, rfl⟩ entry_list_sort (SrtO.list_sort_ord SrtO.swo_int g1 hz2 (fun h2 => SrtO.ints_sortable hi h2) fun out hs hb => ⟨_, rfl, ?_⟩) (args_list_sort _)))
  refine wpAny_pure ?_
  obtain ⟨q1, q2, q3⟩ := SrtO.ints_out hi hs hb
  obtain ⟨ep, he'⟩ := sortedHeap_at (vs := its) (out := out.toArray) g1
  have I1 : Inv X pins σ H { s with heap := h1, toks := s.toks } := I.kept k1
  have hlen : ((out.map SrtO.iv).map V.int).length ≤ sizeLine := by
    rw [List.length_map, q2.length_eq, ← List.length_map (f := V.int)]
    exact hz
  have old : ∀ b u, h1.get? b = some u → (sortedHeap (h1.push (seqObj "list" its.toArray 0)) h1.objs.size its out.toArray).get? b = some u := fun b u e => by
    have hb := Heap.lt_size e
    rw [sortedHeap_old (Nat.ne_of_lt hb) (by rw [size_push']; exact Nat.lt_succ_of_lt hb)]
    exact Heap.get?_push_of_some _ e
  exact ⟨_, rfl, .ref _, upd H h1.objs.size (.lst ((out.map SrtO.iv).map V.int)), I1.laid (t' := s.toks) old (Nat.le_refl _) ⟨hlen, out, ep, vals_of_ints q1, he'⟩, rfl, q _ _ q2 q3 (I1.hok.fresh (Nat.le_refl _))⟩
theorem n_sortedB {c : Cc} {Γ : En} {ω ω1 : Ws} {a : Expr} {pos p : Pos} {bb : Bool} {ns : List Int} (ha : DE c Γ ω a (Sq bb I ns) ω1) (hm : c.M.mg "sorted" = none) (hg : Glo c.sc "sorted" := by exact rfl) (he : ∀ env, starEach [a] env = (false, eval a env) :: starEach [] env := by intro _; rfl) :
    DNE c Γ ω (.Call (.Name "sorted" p) [a] [] pos) (fun ys => ys.Perm ns ∧ ys.Pairwise (· ≤ ·)) I ω1 := by
  cases bb with
  | true => exact n_sorted ha hm hg he
  | false =>
    intro X fx F σ B H hE hO Q hQ
    refine tW.of (pe_callB cr_sortedT (gl_of fx hg) (by rw [fx.mg]; exact hm) (by decide +kernel) pa_w (he := he _)) ?_
    refine a_cons ha a_nil he X fx F σ B H hE hO _ fun vs B1 H1 e1 O1 p1 => ?_
    obtain ⟨v, rfl, hv⟩ := all1 p1
    obtain ⟨a1, us, rfl, g1, g2⟩ := sq_ho hv
    have e := all_i g2
    subst e
    refine ⟨a1, ns, rfl, O1.ex _ _ g1, fun ys l h1 h2 hl => ?_⟩
    exact hQ l ys _ _ ⟨h1, h2⟩ e1 (O1.add hl (C := Cl I ys) ⟨_, rfl, all_ints ys⟩)
end ZZ

set_option maxHeartbeats 2000000
/-! Z13: comprehensions with a test, branches that meet up to a word, the pool. -/
namespace ZZ
open PySem PySem.Spec PyProof.Rows L2
open Evl (Ex)
section
variable {c : Cc} {X : Cx} {B0 F : Hp} {D : Ends} {Γ Γw Γ0 Γ1 : En} {ω ω1 : Ws} {tg it elt t e : Expr} {ifs : List Expr} {scope : Scope} {own : List (Str × Nat)} {α β : Type} {W : Nat → β → Prop} {Rb : β → Sh} {R : α → Sh} {n : Nat} {pos spos py p : Pos} {y x : Str} {rest a b : List Stmt}
/-- [elt for tg in it if t], the items by place -/
theorem n_lcF [Cold c] {ys : List β} (f : β → α) (pr : β → Bool) (ok : BlkOk (Γ.map (·.1)) c.sc scope own) (hw : Wip Γ own Γw) (hi : DI c Γ ω tg it n W Rb ω1) (hn : ys.length = n) (hW : ∀ i y, i < n → W i y → ys[i]? = some y) (hz : n < sizeLine)
    (hb : ∀ i y, i < n → W i y → ∃ Γb ns, DG ⟨c.M, relS scope c.sc, c.k, false, false⟩ tg ns (Rb y) Γw Γb ∧ (∀ x ∈ ns, x ∈ own.map (·.1)) ∧ DT ⟨c.M, relS scope c.sc, c.k, false, false⟩ Γb ω1 t (· = pr y) ω1 ∧ (pr y = true → DE ⟨c.M, relS scope c.sc, c.k, false, false⟩ Γb ω1 elt (R (f y)) ω1))
    (hs : ∀ env x, foldedSetIterable it env x = pure x := by intro _ _; rfl) : DN c Γ ω (.ListComp elt [⟨tg, it, [t], 0⟩] scope pos) R ((ys.filter pr).map f) ω1 := by
  refine DNE.dn ?_
  have h := n_lc (R := R) (pos := pos) (ifs := [t]) (elt := elt) ok hw hi (fun i zs => zs = ((ys.take i).filter pr).map f) (by simp) hz (.inr ⟨t, rfl⟩) (fun i y zs hi hy hJ => ?_) hs
  · have e : (fun zs : List α => zs = ((ys.take n).filter pr).map f) = (· = (ys.filter pr).map f) := by
      funext zs
      rw [List.take_of_length_le (by omega)]
    rw [e] at h
    exact h
  · obtain ⟨Γb, ns, hg, hs, ht, he⟩ := hb i y hi hy
    have hy' := hW i y hi hy
    refine ⟨Γb, ns, (· = pr y), hg, hs, ht, fun q => (he q.symm).wide fun B v z => ⟨f y, ?_, z⟩, fun q => ?_⟩
    · rw [hJ, List.take_add_one, hy', Option.toList_some, List.filter_append, List.map_append]
      simp [List.filter, ← q]
    · rw [hJ, List.take_add_one, hy', Option.toList_some, List.filter_append, List.map_append]
      simp [List.filter, ← q]
/-- x = [elt for tg in it] on one line -/
theorem ds_lcM [Cold c] (zs : List α) (ok : BlkOk (Γ.map (·.1)) c.sc scope own) (hw : Wip Γ own Γw) (hi : DI c Γ ω tg it n W Rb ω1) (hn : zs.length = n) (hz : n < sizeLine)
    (hb : ∀ i y z, W i y → zs[i]? = some z → ∃ Γb ns, DG ⟨c.M, relS scope c.sc, c.k, false, false⟩ tg ns (Rb y) Γw Γb ∧ (∀ x ∈ ns, x ∈ own.map (·.1)) ∧ DE ⟨c.M, relS scope c.sc, c.k, false, false⟩ Γb ω1 elt (R z) ω1)
    (hp : Put Γ y none Γ0) (k : ∀ l, ∃ Γ1, Put Γ y (some (At l)) Γ1 ∧ DS c X B0 F D Γ1 (ω1 ++ [(l, Cl R zs)]) rest)
    (hyl : c.sc.names.lookup y = some .local := by exact rfl) (hk : c.sc.kind = .function := by exact rfl) (hln : (py.line == spos.line) = true := by rfl) (hpl : (py.line == pos.line) = true := by rfl) (ha : (scope.names.any fun (n, k) => n == y && (k == .local || k == .cell)) = false := by decide +kernel)
    (hs : ∀ env x, foldedSetIterable it env x = pure x := by intro _ _; rfl) : DS c X B0 F D Γ ω (.Assign [.Name y py] (.ListComp elt [⟨tg, it, [], 0⟩] scope pos) spos :: rest) := by
  refine ds_lc (R := R) (ifs := []) (elt := elt) ok hw hi (fun i ys => ys = zs.take i) (by simp) hz (.inl rfl) (fun i y ys hi hy hJ => ?_) hp (fun l ys hJ => ?_) hyl hk hln hpl ha hs
  · have hz : zs[i]? = some zs[i] := List.getElem?_eq_getElem (by omega)
    obtain ⟨Γb, ns, hg, hs, he⟩ := hb i y _ hy hz
    refine ⟨Γb, ns, (· = true), hg, hs, rfl, fun _ => he.wide fun B v q => ⟨zs[i], ?_, q⟩, fun z => nomatch z⟩
    rw [hJ, List.take_add_one, hz]
    rfl
  · rw [hJ, List.take_of_length_le (by omega)]
    exact k l
/-- an if whose branches meet again, up to a word -/
theorem ds_ifR {R' : Bool → Prop} (J : En → Ws → Prop) (ht : DT c Γ ω t R' ω1) (ha : R' true → DS c X B0 F { D with nx := Jn (Γ.map (·.1)) B0 F J } Γ ω1 a) (hb : R' false → DS c X B0 F { D with nx := Jn (Γ.map (·.1)) B0 F J } Γ ω1 b)
    (hk : ∀ Γj ωj, J Γj ωj → Γj.map (·.1) = Γ.map (·.1) → DS c X B0 F D Γj ωj rest) : DS c X B0 F D Γ ω (.If t a b pos :: rest) := by
  have key : ∀ (sts : List Stmt), (DS c X B0 F { D with nx := Jn (Γ.map (·.1)) B0 F J } Γ ω1 sts) → DS c X B0 F { D with nx := tS X rest D } Γ ω1 sts := fun sts h fx σ B H hB hE hO =>
    tS.nx (D := { D with nx := tS X rest D }) (h fx σ B H hB hE hO) fun σ' H' q => by
      obtain ⟨Γi, ωi, B', hJ, q1, q2, q3, q4⟩ := q
      exact hk Γi ωi hJ q1 (fx.re q1) σ' B' H' q2 q3 q4
  exact ds_if ht (fun h => key _ (ha h)) (fun h => key _ (hb h))
end
/-! ### the pool -/
abbrev po (p : Addr) : Addr × Co := (p, potQ)
def pd : Ct (Addr × Int) := { As := fun g => [At g.1, I g.2], pre := fun g => 0 < g.2, S := fun g => Ei (fun r => 0 ≤ r ∧ r < g.2), ω := fun g => [po g.1], ω' := fun g => [po g.1] }
theorem flat_po {p : Addr} : ∀ e ∈ ([po p] : Ws), Flat e.2 := fun e he => by rw [List.mem_singleton.mp he]; exact flat_potQ
section
variable {c : Cc} {Γ Γ0 : En} {ω ω1 rest : Ws} {e a b : Expr} {es : List Expr} {x : Str} {p : Addr} {pos px : Pos} {S : Sh} {m : Int} {k : Nat} {P : Int → Prop}
/-- a call that draws of the pool; the arguments may be known up to a word -/
theorem p_callX [Cold c] {τ : Type} {t : Ct τ} {ps : List Str} {ss : List Sh} (G : Gd c.M k x ps t) (hk : k ≤ c.k) (ha : DA c Γ ω (e :: es) ss (po p :: rest))
    (h : ∀ B vs, All2 (fun v (s : Sh) => s.p B v) vs ss → ∃ g, t.pre g ∧ All2 (fun v (s : Sh) => s.p B v) vs (t.As g) ∧ t.ω g = [po p] ∧ t.ω' g = [po p] ∧ Sle (t.S g) S)
    (hg : Glo c.sc x := by exact rfl) (hdb : (x == ("__debug__" : Str)) = false := by decide) (he : ∀ env, starEach (e :: es) env = (false, eval e env) :: starEach es env := by intro _; rfl) (hpl : ∀ env, (backTo pos (starEach es env)).any (·.1) = false := by intro _; rfl) :
    DE c Γ ω (.Call (.Name x px) (e :: es) [] pos) S (po p :: rest) := by
  obtain ⟨f, fd, hF, hm, hkp, hb'⟩ := G
  intro X fx F σ B H hE hO Q hQ
  have hF' : FnOk X.prog X.w X.K X.mg X.base CX0 k f fd ps t.sp := by rw [fx.prog, fx.w, fx.K, fx.mg, fx.base]; exact hF
  refine tW.of (pe_call (ds := []) (dvs := []) (E := E0) hF' (fx.room.mono hk) (gl_of fx hg) (by rw [fx.mg]; exact hm) (by rw [fx.K]; exact hkp) (by rw [fx.K]; exact hb') .nil pass0 pa_w hdb (he _) (hpl _)) ?_
  refine ha X fx F σ B H hE hO _ fun vs B1 H1 e1 O1 p1 => ?_
  obtain ⟨g, h1, h2, h3, h4, h5⟩ := h B1 vs p1
  refine ⟨g, frame F rest H1, B1, h1, by rw [List.append_nil]; exact h2, by rw [h3]; exact (show Own F ([po p] ++ rest) B1 H1 from O1).focus, fun v B' H' e2 O2 p2 => ?_⟩
  rw [h4] at O2
  exact hQ v B' H' (e1.trans e2) ((show Own F ([po p] ++ rest) B1 H1 from O1).unfocus e2 O2 rfl) (h5 _ _ p2)
theorem p_callK [Cold c] {τ : Type} {t : Ct τ} {ps : List Str} {ss : List Sh} (g : τ) (G : Gd c.M k x ps t) (hk : k ≤ c.k) (ha : DA c Γ ω (e :: es) ss (po p :: rest)) (hs : ss = t.As g) (hp : t.pre g) (h3 : t.ω g = [po p] := by rfl) (h4 : t.ω' g = [po p] := by rfl)
    (hg : Glo c.sc x := by exact rfl) (hdb : (x == ("__debug__" : Str)) = false := by decide) (he : ∀ env, starEach (e :: es) env = (false, eval e env) :: starEach es env := by intro _; rfl) (hpl : ∀ env, (backTo pos (starEach es env)).any (·.1) = false := by intro _; rfl) :
    DE c Γ ω (.Call (.Name x px) (e :: es) [] pos) (t.S g) (po p :: rest) :=
  p_callX G hk ha (fun B vs h => ⟨g, hp, hs ▸ h, h3, h4, Sle.refl⟩) hg hdb he hpl
theorem p_draw [Cold c] (G : Gd c.M k x ["pool", "many"] pd) (hk : k ≤ c.k) (ha : DE c Γ (po p :: rest) a (At p) (po p :: rest)) (hb : DE c Γ (po p :: rest) b (I m) (po p :: rest)) (h : 0 < m)
    (hg : Glo c.sc x := by exact rfl) (hdb : (x == ("__debug__" : Str)) = false := by decide) (he : ∀ env, starEach [a, b] env = (false, eval a env) :: starEach [b] env := by intro _; rfl) (he2 : ∀ env, starEach [b] env = (false, eval b env) :: starEach [] env := by intro _; rfl) (hpl : ∀ env, (backTo pos (starEach [b] env)).any (·.1) = false := by intro _; rfl) :
    DE c Γ (po p :: rest) (.Call (.Name x px) [a, b] [] pos) (Ei fun r => 0 ≤ r ∧ r < m) (po p :: rest) :=
  p_callK (t := pd) (p, m) G hk (a_cons ha (a_cons hb a_nil he2) he) rfl h rfl rfl hg hdb he hpl
theorem p_drawE [Cold c] (G : Gd c.M k x ["pool", "many"] pd) (hk : k ≤ c.k) (ha : DE c Γ (po p :: rest) a (At p) (po p :: rest)) (hb : DE c Γ (po p :: rest) b (Ei P) (po p :: rest)) (h : ∀ m, P m → 0 < m)
    (hg : Glo c.sc x := by exact rfl) (hdb : (x == ("__debug__" : Str)) = false := by decide) (he : ∀ env, starEach [a, b] env = (false, eval a env) :: starEach [b] env := by intro _; rfl) (he2 : ∀ env, starEach [b] env = (false, eval b env) :: starEach [] env := by intro _; rfl) (hpl : ∀ env, (backTo pos (starEach [b] env)).any (·.1) = false := by intro _; rfl) :
    DE c Γ (po p :: rest) (.Call (.Name x px) [a, b] [] pos) (Ei fun r => ∃ m, P m ∧ 0 ≤ r ∧ r < m) (po p :: rest) :=
  p_callX (t := pd) G hk (a_cons ha (a_cons hb a_nil he2) he) (fun B vs h' => by
    obtain ⟨v, u, rfl, h1, m, hm, h2⟩ := all2 h'
    exact ⟨(p, m), h m hm, .cons h1 (.cons h2 .nil), rfl, rfl, fun B v z => by
      obtain ⟨y, hy, z⟩ := z
      exact ⟨y, ⟨m, hm, hy⟩, z⟩⟩) hg hdb he hpl
/-! ### a new pool -/
def RtQ (B0 F : Hp) (rt : VK) : Prop := ∀ p B H, Ex B0 B → Own F [po p] B H → rt (.ref p) H
theorem ds_retQ {X : Cx} {B0 F : Hp} {D : Ends} {xs : List Int} {rst : List Stmt} (hR : RtQ B0 F D.rt) (he : DE c Γ ω e (At p) [(p, Cl I xs)]) : DS c X B0 F D Γ ω (.Return (some e) pos :: rst) := by
  intro fx σ B H hB hE hO
  refine tS.cons (ps_ret pe_w) ?_
  refine he X fx F σ B H hE hO _ fun v B1 H1 e1 O1 p1 => ?_
  rw [show v = V.ref p from p1]
  exact hR p B1 H1 (hB.trans e1) (O1.close .z fun B o z => ⟨xs, trivial, z⟩)
def spPool (K : PySem.W.Frag) (n : Nat) : Sp := fun vs H Q _ => ∃ (F B : Hp) (ns : List Int) (m : Int), (ns.length ≤ n ∧ 0 ≤ m ∧ m ≤ 1000) ∧ All2 (fun v (s : Sh) => s.p B v) vs [Sk K ns, I m] ∧ Own F [] B H ∧ ∀ p B' H', Ex B B' → Own F [po p] B' H' → Q (.ref p) H'
def Gq (M : Mo) (k : Nat) (x : Str) (n : Nat) (ps : List Str) : Prop :=
  ∃ (f : Addr) (fd : FuncData), FnOk M.P M.w M.K M.mg M.base CX0 k f fd ps (spPool M.K n) ∧ M.mg x = some (.ref f) ∧ PySem.W.keepIn M.K (.ref f) = true ∧ Binds M.K fd ps []
theorem Pr.gq {M : Mo} {k n : Nat} {x : Str} {st : Stmt} {N : List Str} {s u : Str} (P : Pr M x st [s, u]) (S : FnScope N [s, u] (defScope st))
    (hbody : ∀ (X : Cx) (B0 F0 : Hp) (D : Ends) (ns : List Int) (m : Int), ns.length ≤ n ∧ 0 ≤ m ∧ m ≤ 1000 → RtQ B0 F0 D.rt → DS ⟨M, defScope st, k, true, false⟩ X B0 F0 D (mkΓ N [Sk M.K ns, I m]) [] (defBody st)) : Gq M (k + 1) x n [s, u] := by
  obtain ⟨f, fd, F, hm, hb⟩ := P
  refine ⟨f, fd, F.ok S (fun vs H Q E h => ?_) (fun cdv A outer s H vs Q E hr h => ?_), hm, F.kp, hb⟩
  · obtain ⟨_, _, ns, m, _, h2, _⟩ := h
    rw [h2.len]; rfl
  · obtain ⟨F0, B, ns, m, hn, hv, hO, hQ⟩ := h
    have hl : [Sk M.K ns, I m].length ≤ N.length := by have := congrArg List.length S.pre; rw [List.length_take] at this; simp at this ⊢; omega
    refine ⟨_, pss_w, hbody _ B F0 _ ns m hn (fun p B' H' e1 O1 => hQ p B' H' e1 O1) ?_ _ B H (Ex.refl B) (mk_env N _ vs hv hl) hO⟩
    rw [mk_names]
    exact ⟨rfl, rfl, rfl, rfl, rfl, rfl, rfl, S.nd, fun _ => rfl, fun _ => hr, L2H.roomH_of hr, (fun h => nomatch h), fun _ _ _ => rfl, PassesOwn.never⟩
theorem ds_pool [Cold c] {X : Cx} {B0 F : Hp} {D : Ends} {rst : List Stmt} {n : Nat} {y s u : Str} {ns : List Int} {pc : Pos} (G : Gq c.M k y n [s, u]) (hk : k ≤ c.k) (ha : DE c Γ [] a (Sk c.M.K ns) []) (hb : DE c Γ [] b (I m) []) (hn : ns.length ≤ n ∧ 0 ≤ m ∧ m ≤ 1000) (hp : Put Γ x none Γ0) (K : ∀ p, ∃ Γ1, Put Γ x (some (At p)) Γ1 ∧ DS c X B0 F D Γ1 [po p] rst)
    (hl : Lo c x := by first | exact Or.inl rfl | exact Or.inr ⟨rfl, rfl⟩) (hg : Glo c.sc y := by exact rfl) (hdb : (y == ("__debug__" : Str)) = false := by decide) (he : ∀ env, starEach [a, b] env = (false, eval a env) :: starEach [b] env := by intro _; rfl) (he2 : ∀ env, starEach [b] env = (false, eval b env) :: starEach [] env := by intro _; rfl) (hpl : ∀ env, (backTo pc (starEach [b] env)).any (·.1) = false := by intro _; rfl)
    (hs : ∀ env, swapsWithSole [.Name x px] (.Call (.Name y pf) [a, b] [] pc) pos.line env = pure false := by intro _; rfl) (hw : ∀ env, swappedStores [.Name x px] (.Call (.Name y pf) [a, b] [] pc) env = pure none := by intro _; rfl) : DS c X B0 F D Γ [] (.Assign [.Name x px] (.Call (.Name y pf) [a, b] [] pc) pos :: rst) := by
  intro fx σ B H hB hE hO
  obtain ⟨f, fd, hF, hm, hkp, hb'⟩ := G
  obtain ⟨j, hj⟩ := hp.ix
  refine tS.cons (ps_asg pe_w (pg_name (i := j) (by rw [fx.ns]; exact fx.nd) (by rw [fx.ns]; exact hj) (fx.lo hl).1 (fx.lo hl).2) (hs _) (hw _) (by rfl)) ?_
  have hF' : FnOk X.prog X.w X.K X.mg X.base CX0 k f fd [s, u] (spPool c.M.K n) := by rw [fx.prog, fx.w, fx.K, fx.mg, fx.base]; exact hF
  refine tW.of (pe_call (ds := []) (dvs := []) (E := E0) hF' (fx.room.mono hk) (gl_of fx hg) (by rw [fx.mg]; exact hm) (by rw [fx.K]; exact hkp) (by rw [fx.K]; exact hb') .nil pass0 pa_w hdb (he _) (hpl _)) ?_
  refine a_cons ha (a_cons hb a_nil he2) he X fx F σ B H hE hO _ fun vs B1 H1 e1 O1 p1 => ?_
  refine ⟨F, B1, ns, m, hn, by rw [List.append_nil]; exact p1, O1, fun p' B2 H2 e2 O2 => ?_⟩
  obtain ⟨Γ1, hp', K⟩ := K p'
  obtain ⟨j', h1, h2⟩ := hp'.set
  have e : j' = j := nodup_ix fx.nd h1 hj
  subst e
  exact K (fx.re hp'.names) _ B2 H2 (hB.trans (e1.trans e2)) (h2 _ _ _ (hE.mono (e1.trans e2)) rfl) O2
end
end ZZ

set_option maxHeartbeats 2000000
/-! Z14: own errors that carry one word: made, raised, caught. -/
namespace ZZ
open PySem PySem.Spec PyProof.Rows L2
open Evl (Ex)
/-- __init__(self, word): self.word = word -/
def spI (K : PySem.W.Frag) (fld : Str) : Sp := fun vs H Q _ => ∃ (a C : Addr) (v : V), vs = [.ref a, v] ∧ OexC K C ∧ PySem.W.findIn K (.ref C) fld = some none ∧ H a = some (exo a C none) ∧ ∀ dx, H dx = none → dx ≠ a → Q .non (upd (upd H dx (exd dx [(fld, v)])) a (exo a C (some dx)))
theorem fn_init {P : Program} {w : World} {K : PySem.W.Frag} {mg : Str → Option Value} {base : Heap} {qual fld par : Str} {st : Stmt} {f : Addr} {fd : FuncData} {k : Nat} {q1 q2 q3 q4 : Pos} (F : Fun K "__init__" qual st f fd) (S : FnScope ["self", par] ["self", par] (defScope st)) (hb : defBody st = [.Assign [.Attribute (.Name "self" q1) fld q2] (.Name par q3) q4])
    (v0 : Vis (defScope st) "self") (v1 : Vis (defScope st) par) (hd : (par == ("__debug__" : Str)) = false) (hcd : (par == ("__classdict__" : Str)) = false) : FnOk P w K mg base CX0 (k + 1) f fd ["self", par] (spI K fld) := by
  refine F.ok S (fun vs H Q E h => ?_) (fun cdv A outer s H vs Q E hr h => ?_)
  · obtain ⟨_, _, _, rfl, _⟩ := h; rfl
  · obtain ⟨a, C, v, rfl, T, hno, hH, q⟩ := h
    rw [hb]
    refine ⟨_, pss_cons (ps_ost (pe_var (i := 0) rfl v0) (pe_var (i := 1) rfl v1 hd hcd)) pss_nil, ?_⟩
    refine ⟨v, rfl, .ref a, rfl, a, C, rfl, T, hno, .inl ⟨hH, fun dx h1 h2 => ?_⟩⟩
    exact q dx h1 h2
end ZZ

set_option maxHeartbeats 2000000
/-! Z15: defs called where an exception is handled. -/
namespace ZZ
open PySem PySem.Spec PyProof.Rows L2
open Evl (Ex)
def Gh {τ : Type} (M : Mo) (k : Nat) (x : Str) (ps : List Str) (t : Ct τ) : Prop :=
  ∃ (f : Addr) (fd : FuncData), L2H.FnH M.P M.w M.K M.mg M.base CX0 k f fd ps t.sp ∧ M.mg x = some (.ref f) ∧ PySem.W.keepIn M.K (.ref f) = true ∧ Binds M.K fd ps []
theorem Pr.gh {τ : Type} {t : Ct τ} {M : Mo} {k : Nat} {x : Str} {st : Stmt} {N ps : List Str} (P : Pr M x st ps) (S : FnScope N ps (defScope st)) (hlen : ∀ g, (t.As g).length = ps.length)
    (hbody : ∀ (X : Cx) (B0 F0 : Hp) (D : Ends) (g : τ), t.pre g → Rt B0 F0 D.rt (t.S g) (t.ω' g) → (∀ σ H, D.rt .non H → D.nx σ H) → DS ⟨M, defScope st, k, true, true⟩ X B0 F0 D (mkΓ N (t.As g)) (t.ω g) (defBody st)) : Gh M (k + 1) x ps t := by
  obtain ⟨f, fd, F, hm, hb⟩ := P
  obtain ⟨oc, od, kV, doc, pm, an, cdv, ct, osl, rfl, lk, hcd⟩ := F.ex
  refine ⟨f, _, L2H.fn_ofH lk hcd S (fun vs H Q E h => ?_) (fun A outer s H vs Q E p hot hr h => ?_), hm, F.kp, hb⟩
  · obtain ⟨g, _, _, _, h2, _⟩ := h
    rw [h2.len, hlen]
  · obtain ⟨g, F0, B, hp, hv, hO, hQ⟩ := h
    have hl : ps.length ≤ N.length := by have := congrArg List.length S.pre; rw [List.length_take] at this; omega
    refine ⟨_, (pss_w (X := (L2H.cxH CX0 M.P M.w M.K M.mg M.base N x (defScope st) f cdv A outer s H E p).nox)).nox, hbody _ B F0 _ g hp (fun v B' H' e1 O1 p1 => hQ v B' H' e1 O1 p1) (fun _ _ h => h) ?_ _ B H (Ex.refl B) (mk_env N _ vs hv (by rw [hlen]; exact hl)) hO⟩
    rw [mk_names]
    exact ⟨rfl, rfl, rfl, rfl, rfl, rfl, rfl, S.nd, (fun h => nomatch h), (fun h => nomatch h), hr, fun _ => ⟨p, hot, List.mem_singleton.mpr rfl⟩, fun _ _ _ => rfl, PassesOwn.never⟩
section
variable {c : Cc} {X : Cx} {B0 F : Hp} {D : Ends} {Γ Γ0 : En} {ω ω1 : Ws} {e it tg : Expr} {es : List Expr} {x : Str} {pos px p : Pos} {α β : Type} {Rb : β → Sh} {W : Nat → β → Prop} {n : Nat} {rest body : List Stmt} {a : Expr} {j : Int}
theorem d_callH {τ : Type} {t : Ct τ} {k : Nat} {ps : List Str} {ss : List Sh} (hh : c.hot = true) (g : τ) (G : Gh c.M k x ps t) (hk : k ≤ c.k) (ha : DA c Γ ω (e :: es) ss ω1) (hs : ss = t.As g) (hp : t.pre g) (h0 : t.ω g = [] := by rfl) (h1 : t.ω' g = [] := by rfl)
    (hg : Glo c.sc x := by exact rfl) (hdb : (x == ("__debug__" : Str)) = false := by decide) (he : ∀ env, starEach (e :: es) env = (false, eval e env) :: starEach es env := by intro _; rfl) (hpl : ∀ env, (backTo pos (starEach es env)).any (·.1) = false := by intro _; rfl) :
    DE c Γ ω (.Call (.Name x px) (e :: es) [] pos) (t.S g) ω1 := by
  obtain ⟨f, fd, hF, hm, hkp, hb⟩ := G
  intro X fx F σ B H hE hO Q hQ
  have hF' : L2H.FnH X.prog X.w X.K X.mg X.base CX0 k f fd ps t.sp := by rw [fx.prog, fx.w, fx.K, fx.mg, fx.base]; exact hF
  refine tW.of (L2H.pe_callH (E := fun _ => E0) hF' (fx.roomH.mono hk) (fx.hotc hh) (gl_of fx hg) (by rw [fx.mg]; exact hm) (by rw [fx.K]; exact hkp) (by rw [fx.K]; exact hb) (fun σ pins H s e s' I q => pass0 pins σ H s e s' I q) pa_w hdb (he _) (hpl _)) ?_
  refine ha X fx F σ B H hE hO _ fun vs B1 H1 e1 O1 p1 => ?_
  subst hs
  refine ⟨g, frame F ω1 H1, B1, hp, p1, by rw [h0]; exact (show Own F ([] ++ ω1) B1 H1 from O1).focus, fun v B' H' e2 O2 p2 => ?_⟩
  rw [h1] at O2
  exact hQ v B' H' (e1.trans e2) ((show Own F ([] ++ ω1) B1 H1 from O1).unfocus e2 O2 rfl) p2
def tIh (X : Cx) (tg it : Expr) : TI := fun σ H R => ∀ pins s, Inv X pins σ H s → wpAny (model X.prog X.w) X.A (eval it X.env) (fun v s1 => wpAny (model X.prog X.w) X.A (pyIter v) (L2H.PIEH X pins σ tg R) X.xe s1) X.xe s
theorem tIh.of {X : Cx} {tg it : Expr} {wi : TI} {σ : L2.St} {H : Hp} {R : It → Hp → Prop} (h : L2H.PIH X tg it wi) (q : wi σ H R) : tIh X tg it σ H R := fun pins s I => h.run pins s σ H R I q
theorem pih_w {X : Cx} {tg it : Expr} : L2H.PIH X tg it (tIh X tg it) := ⟨fun pins s σ H R I h => h pins s I⟩
def DIh {β : Type} (c : Cc) (Γ : En) (ω : Ws) (tg it : Expr) (n : Nat) (W : Nat → β → Prop) (Rb : β → Sh) (ω' : Ws) : Prop :=
  ∀ X, Fits c (Γ.map (·.1)) X → ∀ F σ B H, EnvOk Γ σ B → Own F ω B H → ∀ R : It → Hp → Prop, (∀ J B' H', Ex B B' → Own F ω' B' H' → ItS J n W Rb B' → R J H') → tIh X tg it σ H R
theorem i_rng1H (ha : DE c Γ ω a (I j) ω1) (hm : c.M.mg "range" = none) (hj : j < 2 ^ 62 := by omega) (hj' : -(2 ^ 62) ≤ j := by omega) (hg : Glo c.sc "range" := by exact rfl) (he : ∀ env, starEach [a] env = [(false, eval a env)] := by intro _; rfl) :
    DIh c Γ ω tg (.Call (.Name "range" p) [a] [] pos) j.toNat (fun i y => y = (i : Int)) I ω1 := by
  intro X fx F σ B H hE hO R hR
  refine tIh.of (L2H.pi_range1H (gl_of fx hg) (by rw [fx.mg]; exact hm) pa_w (he _)) ?_
  refine a_cons ha a_nil (by intro env; rw [he]; rfl) X fx F σ B H hE hO _ fun vs B1 H1 e1 O1 p1 => ?_
  obtain ⟨v, rfl, hv⟩ := all1 p1
  refine ⟨j, by rw [show v = V.int j from hv], hj', hj, hR _ B1 H1 e1 O1 fun B2 H2 e2 e3 => ?_⟩
  refine ⟨fun i hi => hi, Nat.le_refl _, fun i hi x H3 y => ?_⟩
  obtain ⟨rfl, q⟩ := y
  exact ⟨(i : Int), rfl, .inl ⟨rfl, by rw [q, Int.zero_add]; rfl⟩⟩
/-- a loop where an exception is handled; names and cells by the turn -/
theorem ds_forFH (hh : c.hot = true) (f : Nat → En) (g : Nat → Ws) (hi : DIh c Γ ω tg it n W Rb ω1) (hf : Fg Γ (f 0)) (h0 : ω1 = g 0)
    (hb : ∀ B1, Ex B0 B1 → ∀ i y, i < n → W i y → ∃ Γb ns, DG c tg ns (Rb y) (f i) Γb ∧ DS c X B1 F { D with nx := Jn (Γ.map (·.1)) B1 F (lp f g (i + 1)), ct := Jn (Γ.map (·.1)) B1 F (lp f g (i + 1)), bk := tS X rest D } Γb (g i) body)
    (hd : DS c X B0 F D (f n) (g n) rest) (hs : ∀ env x, foldedSetIterable it env x = pure x := by intro _ _; rfl) : DS c X B0 F D Γ ω (.For tg it body [] pos :: rest) := by
  intro fx σ B H hB hE hO
  refine tS.cons (L2H.ps_forH fx.pass (fx.hotc hh) pih_w pg_w pss_w (hs _)) ?_
  refine hi X fx F σ B H hE hO _ fun It B1 H1 e1 O1 hit => ?_
  have hB1 : Ex B0 B1 := hB.trans e1
  subst h0
  refine ⟨fun i m σ' H' => m = n - i ∧ i ≤ n ∧ Jn (Γ.map (·.1)) B1 F (lp f g i) σ' H', ⟨n, by simp, Nat.zero_le _, f 0, g 0, B1, ⟨rfl, rfl⟩, hf.names, Ex.refl B1, hf.env (hE.mono e1), O1⟩, ?_⟩
  rintro i m σ2 H2 ⟨rfl, hi', Γi, ωi, B2, ⟨rfl, rfl⟩, hN, hB2, hE2, hO2⟩
  obtain ⟨q1, q2, q3⟩ := hit B2 H2 hB2 hO2.ex
  by_cases hlt : i < n
  · refine .inr ⟨q1 i hlt, Jn (Γ.map (·.1)) B1 F (lp f g (i + 1)), fun σ' H' p' => ⟨n - (i + 1), by omega, rfl, hlt, p'⟩, fun x H3 y => ?_⟩
    obtain ⟨z, hz, q⟩ := q3 i hlt x H3 y
    obtain ⟨Γb, ns, hg, hds⟩ := hb B1 hB1 i z hlt hz
    rcases q with ⟨rfl, q⟩ | ⟨T, o, hT, rfl, q⟩
    · refine hg.2 X (fx.re hN) σ2 B2 _ x hE2 hO2.ex q _ fun σ3 hE3 _ => ?_
      exact hds (fx.re (hg.1.trans hN)) σ3 B2 _ hB2 hE3 hO2
    · obtain ⟨O4, e4⟩ := hO2.new (o := o) hT
      refine hg.2 X (fx.re hN) σ2 (upd B2 T o) _ x (hE2.mono e4) O4.ex (q (hO2.none_of hT).1) _ fun σ3 hE3 _ => ?_
      exact hds (fx.re (hg.1.trans hN)) σ3 _ _ (hB2.trans e4) hE3 O4
  · have e : i = n := by omega
    subst e
    exact .inl ⟨q2, hd (fx.re hN) σ2 B2 H2 (hB1.trans hB2) hE2 hO2⟩
end
end ZZ

set_option maxHeartbeats 2000000
/-! Z16: a def that raises an own error; the error caught. -/
namespace ZZ
open PySem PySem.Spec PyProof.Rows L2
open Evl (Ex)
/-- an own error made, its context None -/
theorem pmkN_oex {X : Cx} {CX : CXT} {x : Str} {e : Expr} {es : List Expr} {ta : TA} {p ps0 : Pos} {C fI : Addr} {k : Nat} {fd : FuncData} {ps : List Str} {sp : Sp} (TT : OexC X.K C) (iCC : PySem.W.findIn X.K (.ref C) "__init__" = some (some (.ref fI))) (tII : PySem.W.typeIn X.K (.ref fI) = some (.type "function"))
    (FF : FnOk X.prog X.w X.K X.mg X.base CX k fI fd ps sp) (hrr : Room (k + 1) X.A) (hbb : Binds X.K fd ps []) (hxx : Passes CX X (fun _ _ _ => False)) (hgg : Gl X x) (hmm : X.mg x = some (.ref C)) (haa : PA X (e :: es) ta)
    (hdbb : (x == ("__debug__" : Str)) = false) (hee : starEach (e :: es) X.env = (false, eval e X.env) :: starEach es X.env) (hppl : (backTo ps0 (starEach es X.env)).any (·.1) = false) :
    L2N.PMk X (.Call (.Name x p) (e :: es) [] ps0) (tMkO C sp [] ta) := by
  intro pp s σ0 H Q I hq0
  obtain ⟨nm, q, N, bs, mro1, sn, sub, ab, col, dd, n0, n1, n2, n3, n5, clC, mro2⟩ := TT.cls
  refine wpAny_Call_Name_kw (ld_glob I hgg hmm ?_ hdbb)
  refine PySem.W.callWith_K (h₀ := X.base) I.ok.mod.kin TT.kC (thn (haa.run ps0 pp s σ0 H _ I hq0) fun ws sB ⟨xs, HB, J1, vv1, hz, goal1⟩ => ⟨J1.kIn, ?_⟩) hee hppl
  show wpAny _ _ (call (.ref C) ws) _ _ _
  obtain ⟨hz0, gs0, dw0, tt0, oz0⟩ := sB
  have le2 : hz0.objs.size ≤ hz0.objs.size + 1 := Nat.le_succ _
  have fr2 : HB (hz0.objs.size + 1) = none := J1.hok.fresh le2
  have sq2 := goal1 (hz0.objs.size + 1) fr2
  rw [List.append_nil] at sq2
  have kp2 : ∀ b o, hz0.get? b = some o → ((hz0.push (PySem.W.kdv_tup ws)).push (PySem.HandSPX.excO C hz0.objs.size)).get? b = some o := fun b o eq1 => Heap.get?_push_of_some _ (Heap.get?_push_of_some _ eq1)
  have got2 : ((hz0.push (PySem.W.kdv_tup ws)).push (PySem.HandSPX.excO C hz0.objs.size)).get? (hz0.objs.size + 1) = some (PySem.HandSPX.excO C hz0.objs.size) := by heap_get
  have J2 : Inv X pp σ0 (upd HB (hz0.objs.size + 1) (exo (hz0.objs.size + 1) C none)) ⟨(hz0.push (PySem.W.kdv_tup ws)).push (PySem.HandSPX.excO C hz0.objs.size), gs0, dw0, tt0, oz0⟩ :=
    J1.laid (t' := tt0) (a := hz0.objs.size + 1) (o := exo (hz0.objs.size + 1) C none) (h' := (hz0.push (PySem.W.kdv_tup ws)).push (PySem.HandSPX.excO C hz0.objs.size)) kp2 le2 (exo_ok got2)
  have vv2 : Vals (V.ref (hz0.objs.size + 1) :: xs) (Value.ref (hz0.objs.size + 1) :: ws) := .cons rfl vv1
  have ln2 : (Value.ref (hz0.objs.size + 1) :: ws ++ []).length = ps.length := by
    have eq1 := vv2.length
    rw [FF.len _ _ _ _ sq2] at eq1
    rw [List.append_nil]; exact eq1.symm
  have sz2 : ws.length ≤ sizeLine := by
    rw [← Paired.length vv1, sizeLine_eq]
    omega
  have bd2 := hbb _ (Value.ref (hz0.objs.size + 1) :: ws) J2.kIn ln2
  rw [List.append_nil] at bd2
  refine wpAny_call (PySem.HandSPX.call_own F.excBase_ValueError (fun Y => PySem.HandSPX.refsVE_contains Y mro1 mro2) (J1.kIn _ _ clC) (PySem.W.looks_findIn J1.kIn iCC) (fun self => PySem.W.bind_fn J1.kIn self tII) sz2
    (codeAny_mono (FF.run _ X.stack _ _ ⟨Value.ref (hz0.objs.size + 1) :: ws, []⟩ (Value.ref (hz0.objs.size + 1) :: ws) _ _ (fun _ _ _ => False) (hrr.make C ws []) (J2.env0.make C ws []) bd2 vv2 sq2) fun r s' out2 => ?_))
  cases r with
  | error eX => exact hxx pp σ0 _ _ eX s' J2 out2
  | ok fX =>
    cases fX with
    | ret u =>
      obtain ⟨v, H2, oze2, bar2, und2, okk2, rv, nul2, d, flds, atA, atD, frD, goal2⟩ := out2
      subst nul2
      obtain ⟨hz2, gs2, dw2, tt2, oz2⟩ := s'
      obtain ⟨t0, G, J, kG, gE, atG, frG⟩ := mk_end0 (d2 := dw2) (t2 := tt2) J1 le2 kp2 und2 okk2 oze2 bar2 atA atD frD
      exact ⟨rv, hz0.objs.size + 1, _, _, ⟨G, gs2, dw2, tt2, oz2⟩, _, .ref C, some d, rfl, J, kG, gE, atG, ⟨rfl, rfl, fun fv hv => by cases hv; rfl⟩, rfl, rfl, frG, rfl, bar2, raises_own TT.exC TT.tyC, goal2⟩
    | next => exact False.elim out2
    | brk => exact False.elim out2
    | cont => exact False.elim out2
/-- the def lets out an error of the class at C that carries a word of the shape S -/
def Ct.spR {τ : Type} (t : Ct τ) (C : Addr) (fld : Str) : Sp := fun vs H _ E => ∃ (g : τ) (F B : Hp), t.pre g ∧ All2 (fun v (s : Sh) => s.p B v) vs (t.As g) ∧ Own F [] B H ∧ ∀ dd v B' H', Ex B B' → Own F [] B' H' → B' dd = some (.xd [(fld, v)]) → (t.S g).p B' v → E (.ref C) (some dd) H'
theorem takesN0 {X : Cx} : L2N.Takes X (fun _ _ _ _ => False) := fun _ _ ⟨_, _, _, _, _, _, _, _, _, _, _, _, _, _, _, _, q⟩ => q.elim
theorem gd_raise {τ : Type} {t : Ct τ} {M : Mo} {k : Nat} {x qual : Str} {st : Stmt} {f : Addr} {fd : FuncData} {N ps : List Str} {C : Addr} {fld : Str} (F : Fun M.K x qual st f fd) (S : FnScope N ps (defScope st)) (hlen : ∀ g, (t.As g).length = ps.length)
    (hbody : ∀ (X : Cx) (B0 F0 : Hp) (D : Ends) (W : WX) (g : τ), t.pre g → L2N.Takes X W → (∀ σ dd v B H, Ex B0 B → Own F0 [] B H → B dd = some (.xd [(fld, v)]) → (t.S g).p B v → W (.ref C) (some dd) σ H) → DS ⟨M, defScope st, k, true, false⟩ X B0 F0 D (mkΓ N (t.As g)) [] (defBody st)) :
    FnOk M.P M.w M.K M.mg M.base (L2N.CX M.P M.w) (k + 1) f fd ps (t.spR C fld) := by
  obtain ⟨oc, od, kV, doc, pm, an, cdv, ct, osl, rfl, lk, hcd⟩ := F.ex
  refine fn_of lk hcd S (fun vs H Q E h => ?_) (fun A outer s H vs Q E hr h => ?_)
  · obtain ⟨g, _, _, _, h2, _⟩ := h
    rw [h2.len, hlen]
  · obtain ⟨g, F0, B, hp, hv, hO, hQ⟩ := h
    have hl : ps.length ≤ N.length := by have := congrArg List.length S.pre; rw [List.length_take] at this; omega
    refine ⟨_, pss_w, hbody _ B F0 _ (fun cls d _ H => E cls d H) g hp (L2N.takes_of rfl rfl rfl rfl) (fun σ dd v B' H' e O h1 h2 => hQ dd v B' H' e O h1 h2) ?_ _ B H (Ex.refl B) (mk_env N _ vs hv (by rw [hlen]; exact hl)) hO⟩
    rw [mk_names]
    exact ⟨rfl, rfl, rfl, rfl, rfl, rfl, rfl, S.nd, fun _ => rfl, fun _ => hr, L2H.roomH_of hr, (fun h => nomatch h), fun _ _ _ => rfl, passes_of rfl⟩
/-- what the top has written of an own error class and its __init__ -/
structure XC (M : Mo) (x : Str) (C fI : Addr) (fdI : FuncData) (par fld : Str) (kI : Nat) : Prop where
  T : OexC M.K C
  iC : PySem.W.findIn M.K (.ref C) "__init__" = some (some (.ref fI))
  tI : PySem.W.typeIn M.K (.ref fI) = some (.type "function")
  F1 : FnOk M.P M.w M.K M.mg M.base CX0 kI fI fdI ["self", par] (spI M.K fld)
  hb : Binds M.K fdI ["self", par] []
  hno : PySem.W.findIn M.K (.ref C) fld = some none
  hm : M.mg x = some (.ref C)
section
variable {c : Cc} {X : Cx} {B0 F : Hp} {D : Ends} {Γ : En} {ω ω1 : Ws} {a : Expr} {x : Str} {pos px pos2 : Pos} {S : Sh} {rest : List Stmt}
theorem ds_raise [Cold c] {W : WX} {C fI : Addr} {fdI : FuncData} {par fld : Str} {kI : Nat} (tk : L2N.Takes X W) (XT : XC c.M x C fI fdI par fld kI) (hk : kI + 1 ≤ c.k) (ha : DE c Γ ω a S ω1) (K : ∀ σ dd v B H, Ex B0 B → Own F ω1 B H → B dd = some (.xd [(fld, v)]) → S.p B v → W (.ref C) (some dd) σ H)
    (hg : Glo c.sc x := by exact rfl) (hdb : (x == ("__debug__" : Str)) = false := by decide) (he : ∀ env, starEach [a] env = (false, eval a env) :: starEach [] env := by intro _; rfl) (hpl : ∀ env, (backTo pos (starEach ([] : List Expr) env)).any (·.1) = false := by intro _; rfl) :
    DS c X B0 F D Γ ω (.Raise (some (.Call (.Name x px) [a] [] pos)) none pos2 :: rest) := by
  intro fx σ B H hB hE hO
  have T : OexC X.K C := by rw [fx.K]; exact XT.T
  have iC : PySem.W.findIn X.K (.ref C) "__init__" = some (some (.ref fI)) := by rw [fx.K]; exact XT.iC
  have tI' : PySem.W.typeIn X.K (.ref fI) = some (.type "function") := by rw [fx.K]; exact XT.tI
  have F1 : FnOk X.prog X.w X.K X.mg X.base CX0 kI fI fdI ["self", par] (spI X.K fld) := by rw [fx.prog, fx.w, fx.K, fx.mg, fx.base]; exact XT.F1
  have hno : PySem.W.findIn X.K (.ref C) fld = some none := by rw [fx.K]; exact XT.hno
  refine tS.cons (L2N.ps_raise fx.calm tk (pmkN_oex T iC tI' F1 (fx.room.mono hk) (by rw [fx.K]; exact XT.hb) pass0 (gl_of fx hg) (by rw [fx.mg]; exact XT.hm) pa_w hdb (he _) (hpl _))) ?_
  refine a_cons ha a_nil he X fx F σ B H hE hO _ fun vs B1 H1 e1 O1 p1 => ?_
  obtain ⟨v, rfl, hv⟩ := all1 p1
  refine ⟨by simp, fun a' ha' => ⟨a', C, v, rfl, T, hno, upd_same, fun dx hdx hne => ?_⟩⟩
  have hdx1 : H1 dx = none := by rw [upd_ne hne] at hdx; exact hdx
  refine ⟨rfl, dx, [(fld, v)], upd_same, by rw [upd_ne hne, upd_same], hdx1, ?_⟩
  have e : upd (del (upd (upd (upd H1 a' (exo a' C none)) dx (exd dx [(fld, v)])) a' (exo a' C (some dx))) a') dx (.xd [(fld, v)]) = upd H1 dx (.xd [(fld, v)]) := by
    funext b
    by_cases z : b = dx
    · rw [z, upd_same, upd_same]
    · rw [upd_ne z, upd_ne z]
      by_cases y : b = a'
      · rw [y, del_same, ha']
      · rw [del_ne y, upd_ne y, upd_ne z, upd_ne y]
  rw [e]
  obtain ⟨O2, e2⟩ := O1.new (o := .xd [(fld, v)]) hdx1
  exact K σ dx v _ _ ((hB.trans e1).trans e2) O2 upd_same (S.mono e2 hv)
end
/-- a def that always raises -/
def Gx {τ : Type} (M : Mo) (k : Nat) (x : Str) (ps : List Str) (t : Ct τ) (C : Addr) (fld : Str) : Prop :=
  ∃ (f : Addr) (fd : FuncData), FnOk M.P M.w M.K M.mg M.base (L2N.CX M.P M.w) k f fd ps (t.spR C fld) ∧ M.mg x = some (.ref f) ∧ PySem.W.keepIn M.K (.ref f) = true ∧ Binds M.K fd ps []
theorem Pr.gx {τ : Type} {t : Ct τ} {M : Mo} {k : Nat} {x : Str} {st : Stmt} {N ps : List Str} {C : Addr} {fld : Str} (P : Pr M x st ps) (S : FnScope N ps (defScope st)) (hlen : ∀ g, (t.As g).length = ps.length)
    (hbody : ∀ (X : Cx) (B0 F0 : Hp) (D : Ends) (W : WX) (g : τ), t.pre g → L2N.Takes X W → (∀ σ dd v B H, Ex B0 B → Own F0 [] B H → B dd = some (.xd [(fld, v)]) → (t.S g).p B v → W (.ref C) (some dd) σ H) → DS ⟨M, defScope st, k, true, false⟩ X B0 F0 D (mkΓ N (t.As g)) [] (defBody st)) : Gx M (k + 1) x ps t C fld := by
  obtain ⟨f, fd, F, hm, hb⟩ := P
  exact ⟨f, fd, gd_raise F S hlen hbody, hm, F.kp, hb⟩
/-- try: f(..) / except C as n: suite, the call always raising -/
theorem ds_try {c : Cc} [Cold c] {X : Cx} {B0 F : Hp} {D : Ends} {Γ : En} {τ : Type} {t : Ct τ} {C : Addr} {fld f x n : Str} {ps : List Str} {ss : List Sh} {k i : Nat} {e : Expr} {es : List Expr} {pf pc pe np pos' pos : Pos} {b₀ : Stmt} {suite rest : List Stmt}
    (hst : X.stack = X.env :: X.outer) (hfr : X.env.frame = some X.env.locals) (g : τ) (G : Gx c.M k f ps t C fld) (hk : k ≤ c.k) (ha : DA c Γ [] (e :: es) ss []) (hs : ss = t.As g) (hp : t.pre g) (hx : c.M.mg x = some (.ref C)) (hex : PySem.W.exmOne c.M.K (.ref C) (.ref C) = some true)
    (hi : (Γ.map (·.1))[i]? = some n) (hln : c.sc.names.lookup n = some .local)
    (hsu : ∀ (a : Addr) (oe : Obj) (dd : Addr) (pn : List (Addr × Obj)) (D' : Ends) (σ : L2.St) (v : V) (B H : Hp), D'.rt = D.rt → L2N.Zn (.ref C) (some dd) oe → (∃ vs, oe.data = .fields vs) → Fits c (Γ.map (·.1)) X → Ex B0 B → EnvOk Γ σ B → Own F [] B H → H a = none → B dd = some (.xd [(fld, v)]) → (t.S g).p B v → tS (X.suite a ((a, oe) :: pn)) (b₀ :: suite) D' (σ.set i (some (.ref a))) H)
    (hgx : Glo c.sc x := by exact rfl) (hgf : Glo c.sc f := by exact rfl) (hdx : (x == ("__debug__" : Str)) = false := by decide) (hdb : (f == ("__debug__" : Str)) = false := by decide) (he : ∀ env, starEach (e :: es) env = (false, eval e env) :: starEach es env := by intro _; rfl) (hpl : ∀ env, (backTo pc (starEach es env)).any (·.1) = false := by intro _; rfl)
    (hsw : ∀ env, swapsWith (.Call (.Name f pf) (e :: es) [] pc) none pe.line env = pure false := by intro _; rfl) :
    DS c X B0 F D Γ [] (.Try [.Expr (.Call (.Name f pf) (e :: es) [] pc) pe] [.ExceptHandler (some (.Name x np)) (some n) (b₀ :: suite) pos'] [] [] pos :: rest) := by
  intro fx σ B H hB hE hO
  obtain ⟨fa, fd, hF, hm, hkp, hbd⟩ := G
  refine tS.cons (L2N.ps_try_as (c := .ref C) (i := i) (Wout := fun _ _ _ _ => False) (tb := fun W D σ H => ∀ pn xe, L2N.Takes (X.tr pn xe) W → PassesOwn (model X.prog X.w) X.A X.env xe → tS (X.tr pn xe) [.Expr (.Call (.Name f pf) (e :: es) [] pc) pe] D σ H)
    (ts := fun a cls d D σ H => ∀ oe pn, L2N.Zn cls d oe → (∃ vs, oe.data = .fields vs) → tS (X.suite a ((a, oe) :: pn)) (b₀ :: suite) D σ H) hst hfr (by rw [fx.ns]; exact fx.nd) (by rw [fx.ns]; exact hi) (by show X.env.scope.names.lookup n = _; rw [fx.sc]; exact hln) ⟨gl_of fx hgx, hdx, .inl (by rw [fx.mg]; exact hx)⟩ takesN0
    (fun W pn xe tk hp => ⟨fun pins s σ H D I h => h pn xe tk hp pins s I⟩) (fun a oe cls d pn z hf => ⟨fun pins s σ H D I h => h oe pn z hf pins s I⟩)) ?_
  intro pn xe tk hpo
  have fxt : Fits c (Γ.map (·.1)) (X.tr pn xe) := ⟨fx.prog, fx.w, fx.K, fx.mg, fx.base, fx.sc, fx.ns, fx.nd, fx.calm0, fx.room0, fx.roomH, (fun h => absurd (h.symm.trans (Cold.out (c := c))) (by decide)), fx.cell, hpo⟩
  have hF' : FnOk (X.tr pn xe).prog (X.tr pn xe).w (X.tr pn xe).K (X.tr pn xe).mg (X.tr pn xe).base (L2N.CX X.prog X.w) k fa fd ps (t.spR C fld) := by
    show FnOk X.prog X.w X.K X.mg X.base (L2N.CX X.prog X.w) k fa fd ps (t.spR C fld)
    rw [fx.prog, fx.w, fx.K, fx.mg, fx.base]; exact hF
  refine tS.of (pss_cons (ps_expr (pe_callS (E := WE _) hF' (fxt.room.mono hk) (gl_of fxt hgf) (by show X.mg f = _; rw [fx.mg]; exact hm) (by show PySem.W.keepIn X.K _ = _; rw [fx.K]; exact hkp) (by show Binds X.K _ _ _; rw [fx.K]; exact hbd) (fun σ => L2N.passAt tk σ) pa_w hdb (he _) (hpl _)) (hsw _)) pss_nil) ?_
  refine ha (X.tr pn xe) fxt F σ B H hE hO _ fun vs B1 H1 e1 O1 p1 => ?_
  subst hs
  refine ⟨g, F, B1, hp, p1, O1, fun dd v B2 H2 e2 O2 h1 h2 => ?_⟩
  refine ⟨true, by rw [fx.K]; exact hex, fun _ a hna oe pn' z hf => ?_, fun h => nomatch h⟩
  exact hsu a oe dd pn' _ σ v B2 H2 rfl z hf fx ((hB.trans e1).trans e2) (hE.mono (e1.trans e2)) O2 hna h1 h2
end ZZ

set_option maxHeartbeats 2000000
/-! Z17: the suite that asks a caught error for its class and its word. -/
namespace ZZ
open PySem PySem.Spec PyProof.Rows L2
open Evl (Ex)
/-- what a caught error's class must say -/
structure XD (K : PySem.W.Frag) (C N : Addr) (fld : Str) : Prop where
  F : XfC K C
  hno : PySem.W.findIn K (.ref C) fld = some none
  hcl : (PySem.W.clsIn K C).isSome = true
  ha : PySem.W.findIn K (.ref C) "__class__" = some (some (.builtin "object.__class__"))
  hn : PySem.W.specialIn K (.builtin "object.__class__") "__get__" = some (some (.builtin "getset_descriptor.__get__"))
  ht : PySem.W.takesIn K (.builtin "object.__class__") = some true
  hm : PySem.W.mroIn K C (.type "object") = some true
  no : PySem.W.kitOne K (.ref C) (.ref N) = some false
def rIsD (K : PySem.W.Frag) (C a dd : Addr) : List V → Hp → VK → Prop := fun xs H Q => ∃ (v : V) (cv : Value) (b : Bool) (fs : List (Str × V)), xs = [.ref a, v] ∧ (∀ u, RelV v u → u = cv) ∧ PySem.W.kitOne K (.ref C) cv = some b ∧ H dd = some (.xd fs) ∧ Q (.bl b) H
theorem call_isD {X : Cx} {a C N dd : Addr} {fld : Str} {oe : Obj} {pn : List (Addr × Obj)} (T : XD X.K C N fld) (hz : Zc (.ref C) (some dd) oe) (hf : ∃ vs, oe.data = .fields vs) : CallR (X.suite a ((a, oe) :: pn)) (.builtin "isinstance") (rIsD X.K C a dd) := by
  intro pins s σ H xs us Q I r h
  obtain ⟨v, cv, b, fs, rfl, hcv, e, hd, q⟩ := h
  cases r with | cons rx rr => cases rr with | cons rt rr =>
  cases rr
  obtain rfl : _ = Value.ref a := rx
  obtain rfl := hcv _ rt
  obtain ⟨hget, _⟩ := I.pin (a, oe) (List.mem_append.mpr (.inl List.mem_cons_self))
  obtain ⟨vs, hv⟩ := hf
  obtain ⟨mA, hns, hr⟩ : ObjOk X.prog X.w H s.heap dd (.xd fs) := I.hok dd _ hd
  obtain ⟨od, ho, hl⟩ := lookIn_ns hns
  have J : PySem.W.InstAt s.heap a oe C (some od) := ⟨hget, hz.1, (by unfold PySem.W.notCls; rw [hv] <;> rfl), by rw [hz.2]; exact ho⟩
  exact PySem.W.kia_one (PySem.W.kitx_exc T.hcl T.F.ga T.F.gg T.F.exC T.ha T.hn T.ht T.hm) I.kIn J e (fun z => nomatch z) fun tk => ⟨.bl b, H, I.kept (t' := tk) fun _ _ z => z, rfl, q⟩
/-- return not isinstance(n, y) and same(n.fld, tuple(z)) -/
theorem suite_same {c : Cc} {X : Cx} {Γ : En} {F B H : Hp} {D' : Ends} {σ : L2.St} {v : V} {a C N dd : Addr} {oe : Obj} {pn : List (Addr × Obj)} {n y z sm fld : Str} {i k : Nat} {sc : List Int} {bz : Bool} {t : Ct (List Int)} {p1 p2 p3 p4 p5 p6 p7 p8 p9 p10 p11 p12 p13 p14 : Pos} {ps : List Str}
    (fx : Fits c (Γ.map (·.1)) X) (hz : L2N.Zn (.ref C) (some dd) oe) (hf : ∃ vs, oe.data = .fields vs) (hE : EnvOk Γ σ B) (hO : Own F [] B H) (hd : B dd = some (.xd [(fld, v)])) (hv : (Sq false I sc).p B v) (T : XD X.K C N fld) (hi : (Γ.map (·.1))[i]? = some n) (hn : Vis c.sc n) (hy : c.M.mg y = some (.ref N)) (hz' : Has Γ z (Sq bz I sc))
    (hzn : z ≠ n) (hzv : Vis c.sc z) (G : Gh c.M k sm ps t) (hk : k ≤ c.k) (hAs : t.As sc = [Sq false I sc, Sq false I sc]) (hpre : t.pre sc) (hS : t.S sc = Bo true) (h0 : t.ω sc = []) (h1 : t.ω' sc = [])
    (hQ : ∀ B' H', Ex B B' → Own F [] B' H' → D'.rt (.bl true) H')
    (m1 : c.M.mg "isinstance" = none) (m2 : c.M.mg "tuple" = none) (g1 : Glo c.sc "isinstance") (g2 : Glo c.sc "tuple") (g3 : Glo c.sc y) (g4 : Glo c.sc sm) (dn : (n == ("__debug__" : Str)) = false) (dn2 : (n == ("__classdict__" : Str)) = false) (dz : (z == ("__debug__" : Str)) = false) (dz2 : (z == ("__classdict__" : Str)) = false) (dy : (y == ("__debug__" : Str)) = false) (ds : (sm == ("__debug__" : Str)) = false)
    (e1 : ∀ env, starEach [Expr.Name n p2, .Name y p3] env = (false, eval (.Name n p2) env) :: starEach [.Name y p3] env := by intro _; rfl) (e2 : ∀ env, starEach [Expr.Name y p3] env = (false, eval (.Name y p3) env) :: starEach [] env := by intro _; rfl)
    (e3 : ∀ env, starEach [Expr.Attribute (.Name n p7) fld p8, .Call (.Name "tuple" p9) [.Name z p10] [] p11] env = (false, eval (.Attribute (.Name n p7) fld p8) env) :: starEach [.Call (.Name "tuple" p9) [.Name z p10] [] p11] env := by intro _; rfl)
    (e4 : ∀ env, starEach [Expr.Call (.Name "tuple" p9) [.Name z p10] [] p11] env = (false, eval (.Call (.Name "tuple" p9) [.Name z p10] [] p11) env) :: starEach [] env := by intro _; rfl) (e5 : ∀ env, starEach [Expr.Name z p10] env = (false, eval (.Name z p10) env) :: starEach [] env := by intro _; rfl) (hb : ∀ env, attributeBase (.Name n p7) fld env (eval (.Name n p7) env) = eval (.Name n p7) env := by intro _; rfl)
    (b1 : ∀ env, (backTo p4 (starEach [Expr.Name y p3] env)).any (·.1) = false := by intro _; rfl) (b2 : ∀ env, (backTo p12 (starEach [Expr.Call (.Name "tuple" p9) [.Name z p10] [] p11] env)).any (·.1) = false := by intro _; rfl) (b3 : ∀ env, (backTo p11 (starEach ([] : List Expr) env)).any (·.1) = false := by intro _; rfl) :
    tS (X.suite a ((a, oe) :: pn)) [.Return (some (.BoolOp .And [.UnaryOp .Not (.Call (.Name "isinstance" p1) [.Name n p2, .Name y p3] [] p4) p5, .Call (.Name sm p6) [.Attribute (.Name n p7) fld p8, .Call (.Name "tuple" p9) [.Name z p10] [] p11] [] p12] p13)) p14] D' (σ.set i (some (.ref a))) H := by
  have hdH : H dd = some (.xd [(fld, v)]) := hO.ex _ _ hd
  have gl : ∀ {q : Str}, Glo c.sc q → Gl (X.suite a ((a, oe) :: pn)) q := fun h => show Gl X _ from gl_of fx h
  have nz : (X.suite a ((a, oe) :: pn)).N[i]? = some n := by show X.N[i]? = _; rw [fx.ns]; exact hi
  have vn : Vis (X.suite a ((a, oe) :: pn)).env.scope n := by show Vis X.env.scope n; rw [fx.sc]; exact hn
  obtain ⟨j, vz, j1, j2, j3⟩ := hz'.get hE
  have hji : i ≠ j := fun q => hzn (Option.some.inj ((q ▸ j1).symm.trans hi))
  have hil : i < σ.length := by
    rw [hE.len]
    have := (List.getElem?_eq_some_iff.mp hi).1
    rw [List.length_map] at this
    exact this
  have j2' : (σ.set i (some (.ref a)))[j]? = some (some vz) := by rw [List.getElem?_set_ne hji]; exact j2
  have i2 : (σ.set i (some (V.ref a)))[i]? = some (some (.ref a)) := by rw [List.getElem?_set_self hil]
  obtain ⟨f, fd, hF, hm, hkp, hbd⟩ := G
  have hF' : L2H.FnH (X.suite a ((a, oe) :: pn)).prog (X.suite a ((a, oe) :: pn)).w (X.suite a ((a, oe) :: pn)).K (X.suite a ((a, oe) :: pn)).mg (X.suite a ((a, oe) :: pn)).base CX0 k f fd ps t.sp := by
    show L2H.FnH X.prog X.w X.K X.mg X.base CX0 k f fd ps t.sp
    rw [fx.prog, fx.w, fx.K, fx.mg, fx.base]; exact hF
  obtain ⟨fv, hfv⟩ := hf
  have hot : L2H.HotC (X.suite a ((a, oe) :: pn)) := ⟨(a, oe), ⟨rfl, fv, hfv, hz.2.2 fv hfv⟩, List.mem_cons_self⟩
  refine tS.cons (ps_ret (pe_and (pe_not (pe_callB (call_isD T hz.zc ⟨fv, hfv⟩) (gl g1) (by show X.mg _ = _; rw [fx.mg]; exact m1) PyProof.Rows.boot_isinstance (pa_cons (pe_var nz vn dn dn2) (pa_cons (pe_glob (v := .ref N) (gl g3) (by show X.mg y = _; rw [fx.mg]; exact hy) rfl dy) pa_nil (e2 _)) (e1 _)) (he := e1 _) (hpl := b1 _)))
    (pe_one (L2H.pe_callH (E := fun _ => E0) hF' ((⟨fx.roomH.dp, fx.roomH.un⟩ : L2H.RoomH c.k (X.A.mark (some (.ref a)))).mono hk) hot (gl g4) (by show X.mg sm = _; rw [fx.mg]; exact hm) (by show PySem.W.keepIn X.K _ = _; rw [fx.K]; exact hkp) (by show Binds X.K _ _ _; rw [fx.K]; exact hbd) (fun σ pins H s e s' I q => pass0 pins σ H s e s' I q)
      (pa_cons (pe_xf T.F T.hno hz.zc ⟨fv, hfv⟩ (pe_var nz vn dn dn2) (hb _)) (pa_cons (pe_callTy call_tuple_of (gl g2) (by show X.mg _ = _; rw [fx.mg]; exact m2) PyProof.Rows.boot_tuple (pa_cons (pe_var (i := j) (by show X.N[j]? = _; rw [fx.ns]; exact j1) (by show Vis X.env.scope z; rw [fx.sc]; exact hzv) dz dz2) pa_nil (e5 _)) (he := e5 _) (hpl := b3 _)) pa_nil (e4 _)) (e3 _)) ds (e3 _) (b2 _))))) ?_
  have fin : ∀ (l : Addr) (B1 H1 : Hp), Ex B B1 → Own F [] B1 H1 → (Sq false I sc).p B1 (.ref l) → t.sp [v, .ref l] H1 (fun u H' => D'.rt u H') E0 := fun l B1 H1 e O q => by
    refine ⟨sc, F, B1, hpre, by rw [hAs]; exact .cons ((Sq false I sc).mono e hv) (.cons q .nil), by rw [h0]; exact O, fun u B2 H2 e2 O2 p2 => ?_⟩
    rw [h1] at O2
    rw [hS] at p2
    rw [show u = V.bl true from p2]
    exact hQ B2 H2 (e.trans e2) O2
  refine ⟨.ref a, i2, V.ref N, Value.ref N, false, [(fld, v)], rfl, fun u h => h, T.no, hdH, ?_⟩
  refine ⟨false, rfl, true, rfl, ?_⟩
  refine ⟨.ref a, i2, rfl, rfl, dd, [(fld, v)], v, rfl, hdH, by simp [List.lookup], vz, j2', ?_⟩
  obtain ⟨ad, us, rfl, q0, q2⟩ := sq_ho j3
  cases bz with
  | true =>
    refine ⟨ad, us, rfl, .inl ⟨SqL.of (hO.ex _ _ q0), fun l hl => ?_⟩⟩
    obtain ⟨O2, e2⟩ := hO.new (o := .tup us) hl
    exact fin l _ _ e2 O2 ⟨l, us, rfl, upd_same, q2.mp fun _ _ q => q⟩
  | false => exact ⟨ad, us, rfl, .inr ⟨SqT.of (hO.ex _ _ q0), fin ad B H (Ex.refl B) hO ⟨ad, us, rfl, q0, q2⟩⟩⟩
end ZZ

set_option maxHeartbeats 2000000
/-! Z18: a name set to a comprehension with a test. -/
namespace ZZ
open PySem PySem.Spec PyProof.Rows L2
open Evl (Ex)
section
variable {c : Cc} {X : Cx} {B0 F : Hp} {D : Ends} {Γ Γw Γ0 Γ1 : En} {ω ω1 : Ws} {tg it elt t e : Expr} {ifs : List Expr} {scope : Scope} {own : List (Str × Nat)} {α β : Type} {W : Nat → β → Prop} {Rb : β → Sh} {R : α → Sh} {n : Nat} {pos spos py p : Pos} {y x : Str} {rest a b : List Stmt}
theorem ds_lcF [Cold c] {ys : List β} (f : β → α) (pr : β → Bool) (ok : BlkOk (Γ.map (·.1)) c.sc scope own) (hw : Wip Γ own Γw) (hi : DI c Γ ω tg it n W Rb ω1) (hn : ys.length = n) (hW : ∀ i y, i < n → W i y → ys[i]? = some y) (hz : n < sizeLine)
    (hb : ∀ i y, i < n → W i y → ∃ Γb ns, DG ⟨c.M, relS scope c.sc, c.k, false, false⟩ tg ns (Rb y) Γw Γb ∧ (∀ x ∈ ns, x ∈ own.map (·.1)) ∧ DT ⟨c.M, relS scope c.sc, c.k, false, false⟩ Γb ω1 t (· = pr y) ω1 ∧ (pr y = true → DE ⟨c.M, relS scope c.sc, c.k, false, false⟩ Γb ω1 elt (R (f y)) ω1))
    (hp : Put Γ y none Γ0) (k : ∀ l, ∃ Γ1, Put Γ y (some (At l)) Γ1 ∧ DS c X B0 F D Γ1 (ω1 ++ [(l, Cl R ((ys.filter pr).map f))]) rest)
    (hyl : c.sc.names.lookup y = some .local := by exact rfl) (hk : c.sc.kind = .function := by exact rfl) (hln : (py.line == spos.line) = true := by rfl) (hpl : (py.line == pos.line) = true := by rfl) (ha : (scope.names.any fun (n, k) => n == y && (k == .local || k == .cell)) = false := by decide +kernel)
    (hs : ∀ env x, foldedSetIterable it env x = pure x := by intro _ _; rfl) : DS c X B0 F D Γ ω (.Assign [.Name y py] (.ListComp elt [⟨tg, it, [t], 0⟩] scope pos) spos :: rest) := by
  refine ds_lc (R := R) (ifs := [t]) (elt := elt) ok hw hi (fun i zs => zs = ((ys.take i).filter pr).map f) (by simp) hz (.inr ⟨t, rfl⟩) (fun i y zs hi hy hJ => ?_) hp (fun l zs hJ => ?_) hyl hk hln hpl ha hs
  · obtain ⟨Γb, ns, hg, hs, ht, he⟩ := hb i y hi hy
    have hy' := hW i y hi hy
    refine ⟨Γb, ns, (· = pr y), hg, hs, ht, fun q => (he q.symm).wide fun B v z => ⟨f y, ?_, z⟩, fun q => ?_⟩
    · rw [hJ, List.take_add_one, hy', Option.toList_some, List.filter_append, List.map_append]
      simp [List.filter, ← q]
    · rw [hJ, List.take_add_one, hy', Option.toList_some, List.filter_append, List.map_append]
      simp [List.filter, ← q]
  · rw [hJ, List.take_of_length_le (by omega)]
    exact k l
end
end ZZ

set_option maxHeartbeats 1000000
/-! K27m: levels, windows, orders, in plain Lean. -/
namespace K27
open ZZ (tab tab_len tab_succ tab_get tab_get' tab_ext tab_set)
def w (wants : List Int) (d : Nat) : Int := wants.getD d 0
theorem w_at {wants : List Int} {d : Nat} {v : Int} (h : wants[d]? = some v) : w wants d = v := by unfold w; rw [List.getD_eq_getElem?_getD, h]; rfl
theorem at_w {wants : List Int} {d : Nat} (h : d < wants.length) : wants[d]? = some (w wants d) := by unfold w; rw [List.getD_eq_getElem?_getD, List.getElem?_eq_getElem h]; rfl
/-! ### a level day by day -/
def tha (wants : List Int) (lead d : Nat) (t : Int) : Int := if lead ≤ d then t + w wants (d - lead) else t
def st (wants : List Int) (lead : Nat) (level : Int) : Nat → Int × Int
  | 0 => (level, 0)
  | d + 1 =>
    (tha wants lead d (st wants lead level d).1 - min (tha wants lead d (st wants lead level d).1) ((st wants lead level d).2 + w wants d),
      (st wants lead level d).2 + w wants d - min (tha wants lead d (st wants lead level d).1) ((st wants lead level d).2 + w wants d))
/-- the rows of a level -/
def lrw (wants : List Int) (lead : Nat) (level : Int) : List (Int × Int) := tab (fun d => st wants lead level (d + 1)) wants.length
/-- a window's sum -/
def win (wants : List Int) (lead d : Nat) : Int := ((wants.take (d + 1)).drop (d + 1 - lead)).sum
/-- the sum of the first k -/
def pre (l : List Int) (k : Nat) : Int := (l.take k).sum
theorem pre_zero {l : List Int} : pre l 0 = 0 := by simp [pre]
theorem pre_succ {l : List Int} {k : Nat} (h : k < l.length) : pre l (k + 1) = pre l k + w l k := by
  unfold pre
  rw [List.take_add_one, at_w h]
  simp
theorem sum_part {l : List Int} {j k : Nat} (h : j ≤ k) : ((l.take k).drop j).sum = pre l k - pre l j := by
  unfold pre
  have e : l.take j = (l.take k).take j := by rw [List.take_take, Nat.min_eq_left h]
  have q := congrArg List.sum (List.take_append_drop j (l.take k))
  rw [List.sum_append, ← e] at q
  omega
theorem win_eq {wants : List Int} {lead d : Nat} (hl : 1 ≤ lead) : win wants lead d = pre wants (d + 1) - pre wants (d + 1 - lead) := sum_part (by omega)
/-- what is there, what is owed: the level less the window, or the other way round -/
theorem st_eq {wants : List Int} {lead : Nat} (hl : 1 ≤ lead) {level : Int} (h0 : 0 ≤ level) : ∀ {d : Nat}, d < wants.length → st wants lead level (d + 1) = (max 0 (level - win wants lead d), max 0 (win wants lead d - level)) := by
  have key : ∀ d, d ≤ wants.length → (st wants lead level d).1 - (st wants lead level d).2 = level - (pre wants d - pre wants (d - lead)) ∧ min (st wants lead level d).1 (st wants lead level d).2 = 0 := by
    intro d
    induction d with
    | zero =>
      intro _
      have e : pre wants (0 - lead) = 0 := by rw [Nat.zero_sub]; exact pre_zero
      rw [e, pre_zero]
      simp only [st]
      omega
    | succ d ih =>
      intro hd
      obtain ⟨i1, i2⟩ := ih (by omega)
      have hp := pre_succ (l := wants) (k := d) hd
      have ht : tha wants lead d (st wants lead level d).1 = (st wants lead level d).1 + (pre wants (d + 1 - lead) - pre wants (d - lead)) := by
        unfold tha
        by_cases q : lead ≤ d
        · rw [if_pos q, show d + 1 - lead = (d - lead) + 1 by omega, pre_succ (by omega)]
          omega
        · rw [if_neg q, show d + 1 - lead = 0 by omega, show d - lead = 0 by omega]
          omega
      simp only [st]
      rw [ht]
      omega
  intro d hd
  obtain ⟨k1, k2⟩ := key (d + 1) hd
  rw [win_eq hl]
  refine Prod.ext ?_ ?_
  · show (st wants lead level (d + 1)).1 = _
    omega
  · show (st wants lead level (d + 1)).2 = _
    omega
/-! ### sorted -/
def inst (x : Int) : List Int → List Int
  | [] => [x]
  | y :: l => if x ≤ y then x :: y :: l else y :: inst x l
def srt : List Int → List Int
  | [] => []
  | x :: l => inst x (srt l)
theorem inst_perm (x : Int) : ∀ l, (inst x l).Perm (x :: l)
  | [] => List.Perm.refl _
  | y :: l => by
    unfold inst
    split
    · exact List.Perm.refl _
    · exact ((inst_perm x l).cons y).trans (List.Perm.swap x y l)
theorem srt_perm : ∀ l, (srt l).Perm l
  | [] => List.Perm.refl _
  | x :: l => (inst_perm x (srt l)).trans ((srt_perm l).cons x)
theorem inst_sorted (x : Int) : ∀ {l : List Int}, l.Pairwise (· ≤ ·) → (inst x l).Pairwise (· ≤ ·)
  | [], _ => by simp [inst]
  | y :: l, h => by
    obtain ⟨h1, h2⟩ := List.pairwise_cons.mp h
    unfold inst
    split
    · rename_i q
      refine List.pairwise_cons.mpr ⟨fun z hz => ?_, h⟩
      rcases List.mem_cons.mp hz with rfl | hz
      · exact q
      · have := h1 z hz; omega
    · rename_i q
      refine List.pairwise_cons.mpr ⟨fun z hz => ?_, inst_sorted x h2⟩
      rcases List.mem_cons.mp ((inst_perm x l).mem_iff.mp hz) with rfl | hz
      · omega
      · exact h1 z hz
theorem srt_sorted : ∀ l, (srt l).Pairwise (· ≤ ·)
  | [] => List.Pairwise.nil
  | x :: l => inst_sorted x (srt_sorted l)
theorem sorted_unique : ∀ {l m : List Int}, l.Perm m → l.Pairwise (· ≤ ·) → m.Pairwise (· ≤ ·) → l = m
  | [], m, h, _, _ => (List.nil_perm.mp h).symm ▸ rfl
  | x :: l, [], h, _, _ => absurd h.length_eq (by simp)
  | x :: l, y :: m, h, h1, h2 => by
    obtain ⟨a1, a2⟩ := List.pairwise_cons.mp h1
    obtain ⟨b1, b2⟩ := List.pairwise_cons.mp h2
    have e : x = y := by
      have q1 : x ≤ y := by
        rcases List.mem_cons.mp (h.mem_iff.mpr List.mem_cons_self) with q | q
        · omega
        · exact a1 y q
      have q2 : y ≤ x := by
        rcases List.mem_cons.mp (h.mem_iff.mp List.mem_cons_self) with q | q
        · omega
        · exact b1 x q
      omega
    subst e
    rw [sorted_unique h.cons_inv a2 b2]
theorem srt_of {l m : List Int} (h : l.Perm m) (hs : l.Pairwise (· ≤ ·)) : l = srt m := sorted_unique (h.trans (srt_perm m).symm) hs (srt_sorted m)
/-- falling: the negatives, sorted -/
theorem srt_neg {l : List Int} : srt (l.map fun x => 0 - x) = ((srt l).map fun x => 0 - x).reverse := by
  refine (srt_of ?_ ?_).symm
  · exact (List.reverse_perm _).trans ((srt_perm l).map _)
  · rw [List.pairwise_reverse, List.pairwise_map]
    exact (srt_sorted l).imp fun {a b} h => by omega
theorem srt_len {l : List Int} : (srt l).length = l.length := (srt_perm l).length_eq
/-- the level that owes on so many days at most -/
def lvl (sums : List Int) (days : Nat) : Int := if days < sums.length then (srt sums).getD (sums.length - 1 - days) 0 else 0
theorem lvl_neg {sums : List Int} {days : Nat} (h : days < sums.length) : (srt (sums.map fun x => 0 - x))[days]? = some (0 - lvl sums days) := by
  have hl := srt_len (l := sums)
  rw [srt_neg, List.getElem?_reverse (by rw [List.length_map]; omega), List.length_map, List.getElem?_map, hl]
  unfold lvl
  rw [if_pos h, List.getD_eq_getElem?_getD, List.getElem?_eq_getElem (by omega)]
  rfl
end K27

set_option maxHeartbeats 1000000
/-! K27r: fractions in lowest terms. -/
namespace K27
open ZZ (tab tab_len tab_succ tab_get tab_get' tab_ext tab_set)
def gc (o u : Int) : Int := ((Nat.gcd o.natAbs u.natAbs : Nat) : Int)
def red (o u : Int) : Int × Int := (o / gc o u, u / gc o u)
theorem gc_pos {o u : Int} (hu : 0 < u) : 0 < gc o u := by
  unfold gc
  have : 0 < Nat.gcd o.natAbs u.natAbs := Nat.gcd_pos_of_pos_right _ (by omega)
  omega
theorem gc_le {o u : Int} (hu : 0 < u) : gc o u ≤ u := by
  unfold gc
  have : Nat.gcd o.natAbs u.natAbs ≤ u.natAbs := Nat.gcd_le_right _ (by omega)
  omega
theorem gc_dvd1 {o u : Int} : gc o u ∣ o := Int.ofNat_dvd_left.mpr (Nat.gcd_dvd_left _ _)
theorem gc_dvd2 {o u : Int} : gc o u ∣ u := Int.ofNat_dvd_left.mpr (Nat.gcd_dvd_right _ _)
theorem red_1 {o u : Int} : (red o u).1 * gc o u = o := Int.ediv_mul_cancel gc_dvd1
theorem red_2 {o u : Int} : (red o u).2 * gc o u = u := Int.ediv_mul_cancel gc_dvd2
theorem red_pos {o u : Int} (hu : 0 < u) : 0 < (red o u).2 := by
  have h := red_2 (o := o) (u := u)
  have g := gc_pos (o := o) hu
  rcases Int.lt_or_le 0 (red o u).2 with z | z
  · exact z
  · have := Int.mul_le_mul_of_nonneg_right z (Int.le_of_lt g)
    omega
theorem red_le {o u : Int} (hu : 0 < u) : (red o u).2 ≤ u := by
  have h := red_2 (o := o) (u := u)
  have g := gc_pos (o := o) hu
  have p := red_pos (o := o) hu
  have := Int.mul_le_mul_of_nonneg_left (show (1 : Int) ≤ gc o u by omega) (Int.le_of_lt p)
  omega
theorem red_abs {o u : Int} (hu : 0 < u) : (red o u).1.natAbs ≤ o.natAbs := by
  have h := congrArg Int.natAbs (red_1 (o := o) (u := u))
  rw [Int.natAbs_mul] at h
  have g := gc_pos (o := o) hu
  have : 1 ≤ (gc o u).natAbs := by omega
  have := Nat.mul_le_mul_left (red o u).1.natAbs this
  omega
theorem red_coprime {o u : Int} (hu : 0 < u) : Nat.Coprime (red o u).1.natAbs (red o u).2.natAbs := by
  have e1 : (red o u).1.natAbs = o.natAbs / Nat.gcd o.natAbs u.natAbs := by
    have h := congrArg Int.natAbs (red_1 (o := o) (u := u))
    rw [Int.natAbs_mul] at h
    have hg : (gc o u).natAbs = Nat.gcd o.natAbs u.natAbs := by unfold gc; exact Int.natAbs_natCast _
    rw [hg] at h
    exact (Nat.div_eq_of_eq_mul_left (Nat.gcd_pos_of_pos_right _ (by omega)) h.symm).symm
  have e2 : (red o u).2.natAbs = u.natAbs / Nat.gcd o.natAbs u.natAbs := by
    have h := congrArg Int.natAbs (red_2 (o := o) (u := u))
    rw [Int.natAbs_mul] at h
    have hg : (gc o u).natAbs = Nat.gcd o.natAbs u.natAbs := by unfold gc; exact Int.natAbs_natCast _
    rw [hg] at h
    exact (Nat.div_eq_of_eq_mul_left (Nat.gcd_pos_of_pos_right _ (by omega)) h.symm).symm
  rw [e1, e2]
  exact Nat.coprime_div_gcd_div_gcd (Nat.gcd_pos_of_pos_right _ (by omega))
theorem low_unique {a b a' b' : Int} (hb : 0 < b) (hb' : 0 < b') (c : Nat.Coprime a.natAbs b.natAbs) (c' : Nat.Coprime a'.natAbs b'.natAbs) (h : a * b' = a' * b) : a = a' ∧ b = b' := by
  have hn := congrArg Int.natAbs h
  rw [Int.natAbs_mul, Int.natAbs_mul] at hn
  have d1 : b.natAbs ∣ b'.natAbs := c.symm.dvd_of_dvd_mul_left (by rw [hn]; exact Nat.dvd_mul_left _ _)
  have d2 : b'.natAbs ∣ b.natAbs := c'.symm.dvd_of_dvd_mul_left (by rw [← hn]; exact Nat.dvd_mul_left _ _)
  have e := Nat.dvd_antisymm d1 d2
  have e2 : b = b' := by omega
  subst e2
  exact ⟨Int.eq_of_mul_eq_mul_right (by omega) h, rfl⟩
/-- a fraction's lowest terms are its own alone -/
theorem red_eq {o u o' u' : Int} (hu : 0 < u) (hu' : 0 < u') (h : o * u' = o' * u) : red o u = red o' u' := by
  have g := gc_pos (o := o) hu
  have g' := gc_pos (o := o') hu'
  have h1 := red_1 (o := o) (u := u)
  have h2 := red_2 (o := o) (u := u)
  have h1' := red_1 (o := o') (u := u')
  have h2' := red_2 (o := o') (u := u')
  have key : (red o u).1 * (red o' u').2 = (red o' u').1 * (red o u).2 := by
    refine Int.eq_of_mul_eq_mul_right (a := gc o u * gc o' u') (Int.ne_of_gt (Int.mul_pos g g')) ?_
    calc (red o u).1 * (red o' u').2 * (gc o u * gc o' u') = ((red o u).1 * gc o u) * ((red o' u').2 * gc o' u') := by
          simp only [Int.mul_assoc, Int.mul_comm, Int.mul_left_comm]
      _ = o * u' := by rw [h1, h2']
      _ = o' * u := h
      _ = ((red o' u').1 * gc o' u') * ((red o u).2 * gc o u) := by rw [h1', h2]
      _ = (red o' u').1 * (red o u).2 * (gc o u * gc o' u') := by simp only [Int.mul_assoc, Int.mul_comm, Int.mul_left_comm]
  obtain ⟨e1, e2⟩ := low_unique (red_pos (o := o) hu) (red_pos (o := o') hu') (red_coprime hu) (red_coprime hu') key
  exact Prod.ext e1 e2
def fadd (f g : Int × Int) : Int × Int := red (f.1 * g.2 + g.1 * f.2) (f.2 * g.2)
def fmul (f g : Int × Int) : Int × Int := red (f.1 * g.1) (f.2 * g.2)
def fless (f g : Int × Int) : Int × Int := fadd f (0 - g.1, g.2)
theorem fadd_red {x y d : Int} (hd : 0 < d) : fadd (red x d) (red y d) = red (x + y) d := by
  have hx := red_1 (o := x) (u := d)
  have hx2 := red_2 (o := x) (u := d)
  have hy := red_1 (o := y) (u := d)
  have hy2 := red_2 (o := y) (u := d)
  have p := red_pos (o := x) hd
  have q := red_pos (o := y) hd
  refine red_eq (Int.mul_pos p q) hd ?_
  calc ((red x d).1 * (red y d).2 + (red y d).1 * (red x d).2) * d = (red x d).1 * (red y d).2 * d + (red y d).1 * (red x d).2 * d := Int.add_mul ..
    _ = (red x d).1 * (red y d).2 * ((red x d).2 * gc x d) + (red y d).1 * (red x d).2 * ((red y d).2 * gc y d) := by rw [hx2, hy2]
    _ = ((red x d).1 * gc x d) * ((red x d).2 * (red y d).2) + ((red y d).1 * gc y d) * ((red x d).2 * (red y d).2) := by simp only [Int.mul_assoc, Int.mul_comm, Int.mul_left_comm]
    _ = (x + y) * ((red x d).2 * (red y d).2) := by rw [hx, hy, ← Int.add_mul]
theorem red_zero {d : Int} (hd : 0 < d) : red 0 d = (0, 1) := by
  have e : gc 0 d = d := by
    unfold gc
    rw [Int.natAbs_zero, Nat.gcd_zero_left]
    omega
  unfold red
  rw [e, Int.zero_ediv, Int.ediv_self (by omega)]
theorem fless_red {p s m : Int} (hm : 0 < m) : fless (p, 1) (red s m) = red (m * p - s) m := by
  have h1 := red_1 (o := s) (u := m)
  have h2 := red_2 (o := s) (u := m)
  have q := red_pos (o := s) hm
  refine red_eq (by show 0 < 1 * (red s m).2; omega) hm ?_
  show (p * (red s m).2 + (0 - (red s m).1) * 1) * m = (m * p - s) * (1 * (red s m).2)
  have e1 : (red s m).1 * m = s * (red s m).2 := by
    calc (red s m).1 * m = (red s m).1 * ((red s m).2 * gc s m) := by rw [h2]
      _ = ((red s m).1 * gc s m) * (red s m).2 := by simp only [Int.mul_assoc, Int.mul_comm, Int.mul_left_comm]
      _ = s * (red s m).2 := by rw [h1]
  rw [Int.mul_one, Int.one_mul, Int.add_mul, Int.sub_mul, Int.zero_mul, Int.sub_mul, e1]
  have : p * (red s m).2 * m = m * p * (red s m).2 := by simp only [Int.mul_assoc, Int.mul_comm, Int.mul_left_comm]
  omega
theorem fmul_red {x d y e : Int} (hd : 0 < d) (he : 0 < e) : fmul (red x d) (red y e) = red (x * y) (d * e) := by
  have hx := red_1 (o := x) (u := d)
  have hx2 := red_2 (o := x) (u := d)
  have hy := red_1 (o := y) (u := e)
  have hy2 := red_2 (o := y) (u := e)
  have p := red_pos (o := x) hd
  have q := red_pos (o := y) he
  refine red_eq (Int.mul_pos p q) (Int.mul_pos hd he) ?_
  calc (red x d).1 * (red y e).1 * (d * e) = (red x d).1 * (red y e).1 * (((red x d).2 * gc x d) * ((red y e).2 * gc y e)) := by rw [hx2, hy2]
    _ = ((red x d).1 * gc x d) * ((red y e).1 * gc y e) * ((red x d).2 * (red y e).2) := by simp only [Int.mul_assoc, Int.mul_comm, Int.mul_left_comm]
    _ = x * y * ((red x d).2 * (red y e).2) := by rw [hx, hy]
theorem fmul_one {x d k : Int} (hd : 0 < d) (hk : 0 < k) : fmul (red x d) (1, k) = red x (d * k) := by
  have hx := red_1 (o := x) (u := d)
  have hx2 := red_2 (o := x) (u := d)
  have p := red_pos (o := x) hd
  refine red_eq (Int.mul_pos p hk) (Int.mul_pos hd hk) ?_
  show (red x d).1 * 1 * (d * k) = x * ((red x d).2 * k)
  calc (red x d).1 * 1 * (d * k) = (red x d).1 * (((red x d).2 * gc x d) * k) := by rw [hx2, Int.mul_one]
    _ = ((red x d).1 * gc x d) * ((red x d).2 * k) := by simp only [Int.mul_assoc, Int.mul_comm, Int.mul_left_comm]
    _ = x * ((red x d).2 * k) := by rw [hx]
theorem red_lt {x d y e : Int} (hd : 0 < d) (he : 0 < e) : decide ((red x d).1 * (red y e).2 < (red y e).1 * (red x d).2) = decide (x * e < y * d) := by
  have hx := red_1 (o := x) (u := d)
  have hx2 := red_2 (o := x) (u := d)
  have hy := red_1 (o := y) (u := e)
  have hy2 := red_2 (o := y) (u := e)
  have g := gc_pos (o := x) hd
  have g' := gc_pos (o := y) he
  have gg := Int.mul_pos g g'
  have e1 : x * e = (red x d).1 * (red y e).2 * (gc x d * gc y e) := by
    calc x * e = ((red x d).1 * gc x d) * ((red y e).2 * gc y e) := by rw [hx, hy2]
      _ = _ := by simp only [Int.mul_assoc, Int.mul_comm, Int.mul_left_comm]
  have e2 : y * d = (red y e).1 * (red x d).2 * (gc x d * gc y e) := by
    calc y * d = ((red y e).1 * gc y e) * ((red x d).2 * gc x d) := by rw [hy, hx2]
      _ = _ := by simp only [Int.mul_assoc, Int.mul_comm, Int.mul_left_comm]
  rw [e1, e2, Bool.eq_iff_iff, decide_eq_true_eq, decide_eq_true_eq]
  exact ⟨fun h => Int.mul_lt_mul_of_pos_right h gg, fun h => Int.lt_of_mul_lt_mul_right h (Int.le_of_lt gg)⟩
/-- rounded up -/
theorem red_ceil {o u : Int} (hu : 0 < u) : ((red o u).1 + (red o u).2 - 1) / (red o u).2 = (o + u - 1) / u := by
  have h1 := red_1 (o := o) (u := u)
  have h2 := red_2 (o := o) (u := u)
  have g := gc_pos (o := o) hu
  have p := red_pos (o := o) hu
  generalize red o u = f at *
  obtain ⟨a, b⟩ := f
  simp only at *
  generalize gc o u = k at *
  subst h1 h2
  have q1 := Int.mul_ediv_self_le (x := a + b - 1) (k := b) (by omega)
  have q2 := Int.lt_mul_ediv_self_add (x := a + b - 1) p
  generalize (a + b - 1) / b = q at *
  have r1 := Int.mul_le_mul_of_nonneg_right q1 (Int.le_of_lt g)
  have r2 := Int.mul_le_mul_of_nonneg_right (show a + b ≤ b * q + b by omega) (Int.le_of_lt g)
  rw [Int.sub_mul, Int.add_mul, Int.one_mul] at r1
  rw [Int.add_mul, Int.add_mul] at r2
  have t1 : q * (b * k) = b * q * k := by simp only [Int.mul_assoc, Int.mul_comm, Int.mul_left_comm]
  have t2 : (q + 1) * (b * k) = b * q * k + b * k := by rw [Int.add_mul, Int.one_mul, t1]
  have u1 : q ≤ (a * k + b * k - 1) / (b * k) := Int.le_ediv_of_mul_le hu (by omega)
  have u2 : (a * k + b * k - 1) / (b * k) < q + 1 := Int.ediv_lt_of_lt_mul hu (by omega)
  omega
end K27

set_option maxHeartbeats 1000000
/-! K27n: misses and the best many. -/
namespace K27
open ZZ (tab tab_len tab_succ tab_get tab_get' tab_ext tab_set)
def Pst (past : List Int) : Prop := past.length ≤ 11 ∧ ∀ x ∈ past, 0 ≤ x ∧ x ≤ 999
theorem w_in {l : List Int} {k : Nat} (h : ∀ x ∈ l, 0 ≤ x ∧ x ≤ 999) : 0 ≤ w l k ∧ w l k ≤ 999 := by
  by_cases q : k < l.length
  · exact h _ (List.mem_of_getElem? (at_w q))
  · unfold w
    rw [List.getD_eq_getElem?_getD, List.getElem?_eq_none (by omega)]
    exact ⟨by decide, by decide⟩
theorem pre_in {l : List Int} (h : ∀ x ∈ l, 0 ≤ x ∧ x ≤ 999) : ∀ {k : Nat}, 0 ≤ pre l k ∧ pre l k ≤ 999 * (k : Int)
  | 0 => by rw [pre_zero]; omega
  | k + 1 => by
    have ih := pre_in h (k := k)
    by_cases q : k < l.length
    · have := w_in (k := k) h
      rw [pre_succ q]
      omega
    · have e : pre l (k + 1) = pre l k := by
        unfold pre
        rw [List.take_of_length_le (by omega), List.take_of_length_le (by omega)]
      rw [e]
      omega
theorem pre_mono {l : List Int} (h : ∀ x ∈ l, 0 ≤ x ∧ x ≤ 999) {j : Nat} : ∀ {d : Nat}, pre l j ≤ pre l (j + d)
  | 0 => by rw [Nat.add_zero]; omega
  | d + 1 => by
    have ih := pre_mono h (j := j) (d := d)
    rw [← Nat.add_assoc]
    by_cases q : j + d < l.length
    · have := w_in (k := j + d) h
      rw [pre_succ q]
      omega
    · have e : pre l (j + d + 1) = pre l (j + d) := by
        unfold pre
        rw [List.take_of_length_le (by omega), List.take_of_length_le (by omega)]
      rw [e]
      omega
def tot (a : Nat → Int) : Nat → Int
  | 0 => 0
  | k + 1 => tot a k + a k
def gap (past : List Int) (m i : Nat) : Int := (m : Int) * w past (m + i) - (pre past (m + i) - pre past i)
def gsq (past : List Int) (m i : Nat) : Int := gap past m i * gap past m i
def mss (past : List Int) (m : Nat) : Int := tot (gsq past m) (past.length - m)
theorem gap_in {past : List Int} (h : Pst past) {m i : Nat} (hm : m + i < past.length) : -20000 ≤ gap past m i ∧ gap past m i ≤ 20000 := by
  have h1 := w_in (k := m + i) h.2
  have h2 := pre_in (k := m + i) h.2
  have h3 := pre_in (k := i) h.2
  have h6 := pre_mono h.2 (j := i) (d := m)
  rw [Nat.add_comm i m] at h6
  have hl := h.1
  have hm2 : (m : Int) ≤ 11 := by omega
  have h4 := Int.mul_le_mul_of_nonneg_right hm2 h1.1
  have h5 : 0 ≤ (m : Int) * w past (m + i) := Int.mul_nonneg (by omega) h1.1
  unfold gap
  omega
theorem gsq_in {past : List Int} (h : Pst past) {m i : Nat} (hm : m + i < past.length) : 0 ≤ gsq past m i ∧ gsq past m i ≤ 400000000 := by
  obtain ⟨h1, h2⟩ := gap_in h hm
  unfold gsq
  generalize gap past m i = g at *
  rcases Int.le_total 0 g with z | z
  · have a := Int.mul_nonneg z z
    have b := Int.mul_le_mul_of_nonneg_right h2 z
    omega
  · have a := Int.mul_nonneg_of_nonpos_of_nonpos z z
    have b := Int.mul_le_mul_of_nonpos_right h1 z
    omega
theorem tot_in {past : List Int} (h : Pst past) {m : Nat} : ∀ {k : Nat}, m + k ≤ past.length → 0 ≤ tot (gsq past m) k ∧ tot (gsq past m) k ≤ 400000000 * (k : Int)
  | 0, _ => by simp [tot]
  | k + 1, hk => by
    have ih := tot_in h (m := m) (k := k) (by omega)
    have := gsq_in h (m := m) (i := k) (by omega)
    simp only [tot]
    omega
theorem mss_in {past : List Int} (h : Pst past) {m : Nat} (hm : m ≤ past.length) : 0 ≤ mss past m ∧ mss past m ≤ 4400000000 := by
  have := tot_in h (m := m) (k := past.length - m) (by omega)
  have hl := h.1
  unfold mss
  omega
/-- what a mean of misses lies over -/
def dn (past : List Int) (m : Nat) : Int := ((m : Int) * (m : Int)) * ((past.length : Int) - (m : Int))
theorem sq_in {m : Nat} (h1 : 1 ≤ m) (h2 : m ≤ 10) : 1 ≤ (m : Int) * (m : Int) ∧ (m : Int) * (m : Int) ≤ 100 := by
  have a := Int.mul_le_mul_of_nonneg_right (show (m : Int) ≤ 10 by omega) (show (0 : Int) ≤ m by omega)
  have b := Int.mul_le_mul_of_nonneg_right (show (1 : Int) ≤ m by omega) (show (0 : Int) ≤ m by omega)
  omega
theorem dn_in {past : List Int} (h : Pst past) {m : Nat} (h1 : 1 ≤ m) (h2 : m < past.length) : 0 < dn past m ∧ dn past m ≤ 1000 := by
  have hl := h.1
  obtain ⟨a, b⟩ := sq_in h1 (by omega)
  unfold dn
  generalize (m : Int) * (m : Int) = s at *
  have c := Int.mul_le_mul_of_nonneg_right b (show (0 : Int) ≤ (past.length : Int) - m by omega)
  have d := Int.mul_le_mul_of_nonneg_right a (show (0 : Int) ≤ (past.length : Int) - m by omega)
  omega
def btr (past : List Int) (m b : Nat) : Bool := decide (mss past m * dn past b < mss past b * dn past m)
def bst (past : List Int) : Nat → Nat
  | 0 => 1
  | k + 1 => if k = 0 then 1 else if btr past (k + 1) (bst past k) = true then k + 1 else bst past k
theorem bst_in {past : List Int} : ∀ {k : Nat}, 1 ≤ bst past k ∧ bst past k ≤ max 1 k
  | 0 => by simp [bst]
  | k + 1 => by
    have ih := bst_in (past := past) (k := k)
    unfold bst
    split
    · omega
    · split <;> omega
theorem bst_one {past : List Int} : bst past 1 = 1 := rfl
theorem bst_yes {past : List Int} {k : Nat} (hk : 1 ≤ k) (h : btr past (k + 1) (bst past k) = true) : bst past (k + 1) = k + 1 := by
  conv => lhs; unfold bst
  rw [if_neg (by omega), if_pos h]
theorem bst_no {past : List Int} {k : Nat} (hk : 1 ≤ k) (h : btr past (k + 1) (bst past k) = false) : bst past (k + 1) = bst past k := by
  conv => lhs; unfold bst
  rw [if_neg (by omega), h]
  rfl
/-! ### Euclid in few turns -/
def Bd : Nat → Int
  | 0 => 200
  | t + 1 => 2 * Bd t / 3
theorem Bd_end : Bd 20 = 0 := by decide
theorem gcd_step {a b : Int} (ha : 0 ≤ a) (hb : 0 < b) : gc a b = gc b (a % b) := by
  unfold gc
  congr 1
  have e : (a % b).natAbs = a.natAbs % b.natAbs := by
    obtain ⟨n, rfl⟩ := Int.eq_ofNat_of_zero_le ha
    obtain ⟨m, rfl⟩ := Int.eq_ofNat_of_zero_le (Int.le_of_lt hb)
    rw [← Int.natCast_emod]
    simp only [Int.natAbs_natCast]
  rw [e, Nat.gcd_comm a.natAbs, Nat.gcd_rec, Nat.gcd_comm]
theorem gc_self {a : Int} (ha : 0 ≤ a) : gc a 0 = a := by
  unfold gc
  rw [Int.natAbs_zero, Nat.gcd_zero_right]
  omega
end K27

set_option maxHeartbeats 2000000
/-! K27a: the text by places; levels. -/
namespace K27
open PySem PySem.Spec PyProof.Rows L2 ZZ
open Evl (Ex)
local macro_rules | `(tactic| walk_at "has") => `(tactic| (with_reducible first | exact Has.z | exact Has.s Has.z | exact Has.s (Has.s Has.z) | exact Has.s (Has.s (Has.s Has.z)) | exact Has.s (Has.s (Has.s (Has.s Has.z))) | exact Has.s (Has.s (Has.s (Has.s (Has.s Has.z)))) | exact Has.s (Has.s (Has.s (Has.s (Has.s (Has.s Has.z))))) | exact Has.s (Has.s (Has.s (Has.s (Has.s (Has.s (Has.s Has.z))))))))
local macro_rules | `(tactic| walk_at "put") => `(tactic| (with_reducible first | exact Put.z | exact Put.s Put.z | exact Put.s (Put.s Put.z) | exact Put.s (Put.s (Put.s Put.z)) | exact Put.s (Put.s (Put.s (Put.s Put.z))) | exact Put.s (Put.s (Put.s (Put.s (Put.s Put.z)))) | exact Put.s (Put.s (Put.s (Put.s (Put.s (Put.s Put.z))))) | exact Put.s (Put.s (Put.s (Put.s (Put.s (Put.s (Put.s Put.z))))))))
local macro_rules | `(tactic| walk_at "swp") => `(tactic| (with_reducible first | exact Swp.z | exact Swp.s Swp.z | exact Swp.s (Swp.s Swp.z) | exact Swp.s (Swp.s (Swp.s Swp.z)) | exact Swp.s (Swp.s (Swp.s (Swp.s Swp.z))) | exact Swp.s (Swp.s (Swp.s (Swp.s (Swp.s Swp.z)))) | exact Swp.s (Swp.s (Swp.s (Swp.s (Swp.s (Swp.s Swp.z))))) | exact Swp.s (Swp.s (Swp.s (Swp.s (Swp.s (Swp.s (Swp.s Swp.z))))))))
local macro_rules | `(tactic| walk_at "tak") => `(tactic| (with_reducible first | exact Tak.z | exact Tak.s Tak.z | exact Tak.s (Tak.s Tak.z) | exact Tak.s (Tak.s (Tak.s Tak.z)) | exact Tak.s (Tak.s (Tak.s (Tak.s Tak.z))) | exact Tak.s (Tak.s (Tak.s (Tak.s (Tak.s Tak.z)))) | exact Tak.s (Tak.s (Tak.s (Tak.s (Tak.s (Tak.s Tak.z))))) | exact Tak.s (Tak.s (Tak.s (Tak.s (Tak.s (Tak.s (Tak.s Tak.z))))))))
local macro_rules | `(tactic| walk_at "hold") => `(tactic| (with_reducible first | exact Hold.z | exact Hold.s Hold.z | exact Hold.s (Hold.s Hold.z) | exact Hold.s (Hold.s (Hold.s Hold.z)) | exact Hold.s (Hold.s (Hold.s (Hold.s Hold.z))) | exact Hold.s (Hold.s (Hold.s (Hold.s (Hold.s Hold.z)))) | exact Hold.s (Hold.s (Hold.s (Hold.s (Hold.s (Hold.s Hold.z))))) | exact Hold.s (Hold.s (Hold.s (Hold.s (Hold.s (Hold.s (Hold.s Hold.z))))))))
local macro_rules | `(tactic| walk_at "upe") => `(tactic| (with_reducible first | exact UpE.z | exact UpE.s UpE.z | exact UpE.s (UpE.s UpE.z) | exact UpE.s (UpE.s (UpE.s UpE.z)) | exact UpE.s (UpE.s (UpE.s (UpE.s UpE.z))) | exact UpE.s (UpE.s (UpE.s (UpE.s (UpE.s UpE.z)))) | exact UpE.s (UpE.s (UpE.s (UpE.s (UpE.s (UpE.s UpE.z))))) | exact UpE.s (UpE.s (UpE.s (UpE.s (UpE.s (UpE.s (UpE.s UpE.z))))))))
local macro_rules | `(tactic| walk_at "fg") => `(tactic| (repeat (first | exact Fg.nil | (with_reducible refine Fg.keep rfl ?_) | (with_reducible refine Fg.drop ?_))))
local macro_rules | `(tactic| walk_at "nonb") => `(tactic| first | exact nonb_I | exact nonb_No | exact nonb_Bo | exact nonb_S | exact nonb_seq | exact nonb_tup)
local macro_rules | `(tactic| walk_at "istb") => `(tactic| first | exact istb_sc | exact istb_seq | exact istb_tup)

def stm (i : Nat) : Stmt := PySem.Challenge.pw_oncecounted_k27_whole_outlook_sets_level.main.body.getD i (.Pass ⟨0, 0, 0, 0⟩)
-- class ShopError at 2
-- class InvalidValue at 3
-- class NoKey at 4
abbrev nm_level_rows : List Str := ["wants", "lead", "level", "found", "there", "owed", "day", "want", "sent"]
theorem sc_level_rows : FnScope nm_level_rows ["wants", "lead", "level"] (defScope (stm 6)) := ⟨rfl, rfl, rfl, by decide +kernel, rfl, by decide +kernel, by decide +kernel⟩
abbrev nm_owed_days : List Str := ["wants", "lead", "level", "_", "owed"]
theorem sc_owed_days : FnScope nm_owed_days ["wants", "lead", "level"] (defScope (stm 7)) := ⟨rfl, rfl, rfl, by decide +kernel, rfl, by decide +kernel, by decide +kernel⟩
abbrev nm_window_sums : List Str := ["wants", "lead", "day"]
theorem sc_window_sums : FnScope nm_window_sums ["wants", "lead"] (defScope (stm 8)) := ⟨rfl, rfl, rfl, by decide +kernel, rfl, by decide +kernel, by decide +kernel⟩
abbrev nm_least_level : List Str := ["wants", "lead", "days", "sums"]
theorem sc_least_level : FnScope nm_least_level ["wants", "lead", "days"] (defScope (stm 9)) := ⟨rfl, rfl, rfl, by decide +kernel, rfl, by decide +kernel, by decide +kernel⟩
abbrev nm_is_amount_of_pieces : List Str := ["value"]
theorem sc_is_amount_of_pieces : FnScope nm_is_amount_of_pieces ["value"] (defScope (stm 11)) := ⟨rfl, rfl, rfl, by decide +kernel, rfl, by decide +kernel, by decide +kernel⟩
abbrev nm_is_scheme : List Str := ["wants", "value", "part"]
theorem sc_is_scheme : FnScope nm_is_scheme ["wants", "value"] (defScope (stm 12)) := ⟨rfl, rfl, rfl, by decide +kernel, rfl, by decide +kernel, by decide +kernel⟩
abbrev nm_nights_of : List Str := ["wants", "scheme", "lying", "now", "want", "ordered"]
theorem sc_nights_of : FnScope nm_nights_of ["wants", "scheme"] (defScope (stm 13)) := ⟨rfl, rfl, rfl, by decide +kernel, rfl, by decide +kernel, by decide +kernel⟩
abbrev nm_covers : List Str := ["wants", "scheme", "lying"]
theorem sc_covers : FnScope nm_covers ["wants", "scheme"] (defScope (stm 14)) := ⟨rfl, rfl, rfl, by decide +kernel, rfl, by decide +kernel, by decide +kernel⟩
abbrev nm_order_cost : List Str := ["pieces", "price", "fixed"]
theorem sc_order_cost : FnScope nm_order_cost ["pieces", "price", "fixed"] (defScope (stm 15)) := ⟨rfl, rfl, rfl, by decide +kernel, rfl, by decide +kernel, by decide +kernel⟩
abbrev nm_scheme_cost : List Str := ["wants", "prices", "fixed", "night", "scheme", "orders", "pieces", "price"]
theorem sc_scheme_cost : FnScope nm_scheme_cost ["wants", "prices", "fixed", "night", "scheme"] (defScope (stm 16)) := ⟨rfl, rfl, rfl, by decide +kernel, rfl, by decide +kernel, by decide +kernel⟩
abbrev nm_pieces_in : List Str := ["wants", "first", "end"]
theorem sc_pieces_in : FnScope nm_pieces_in ["wants", "first", "end"] (defScope (stm 17)) := ⟨rfl, rfl, rfl, by decide +kernel, rfl, by decide +kernel, by decide +kernel⟩
abbrev nm_span_cost : List Str := ["wants", "prices", "fixed", "night", "first", "end", "lying", "day"]
theorem sc_span_cost : FnScope nm_span_cost ["wants", "prices", "fixed", "night", "first", "end"] (defScope (stm 18)) := ⟨rfl, rfl, rfl, by decide +kernel, rfl, by decide +kernel, by decide +kernel⟩
abbrev nm_least_costs : List Str := ["wants", "prices", "fixed", "night", "costs", "end", "ways", "first"]
theorem sc_least_costs : FnScope nm_least_costs ["wants", "prices", "fixed", "night"] (defScope (stm 19)) := ⟨rfl, rfl, rfl, by decide +kernel, rfl, by decide +kernel, by decide +kernel⟩
abbrev nm_least_cost : List Str := ["wants", "prices", "fixed", "night"]
theorem sc_least_cost : FnScope nm_least_cost ["wants", "prices", "fixed", "night"] (defScope (stm 20)) := ⟨rfl, rfl, rfl, by decide +kernel, rfl, by decide +kernel, by decide +kernel⟩
abbrev nm_order_days : List Str := ["scheme", "day", "pieces"]
theorem sc_order_days : FnScope nm_order_days ["scheme"] (defScope (stm 21)) := ⟨rfl, rfl, rfl, by decide +kernel, rfl, by decide +kernel, by decide +kernel⟩
abbrev nm_reduced : List Str := ["over", "under", "common"]
theorem sc_reduced : FnScope nm_reduced ["over", "under"] (defScope (stm 23)) := ⟨rfl, rfl, rfl, by decide +kernel, rfl, by decide +kernel, by decide +kernel⟩
abbrev nm_added : List Str := ["one", "other"]
theorem sc_added : FnScope nm_added ["one", "other"] (defScope (stm 24)) := ⟨rfl, rfl, rfl, by decide +kernel, rfl, by decide +kernel, by decide +kernel⟩
abbrev nm_multiplied : List Str := ["one", "other"]
theorem sc_multiplied : FnScope nm_multiplied ["one", "other"] (defScope (stm 25)) := ⟨rfl, rfl, rfl, by decide +kernel, rfl, by decide +kernel, by decide +kernel⟩
abbrev nm_less : List Str := ["one", "other"]
theorem sc_less : FnScope nm_less ["one", "other"] (defScope (stm 26)) := ⟨rfl, rfl, rfl, by decide +kernel, rfl, by decide +kernel, by decide +kernel⟩
abbrev nm_squared : List Str := ["one"]
theorem sc_squared : FnScope nm_squared ["one"] (defScope (stm 27)) := ⟨rfl, rfl, rfl, by decide +kernel, rfl, by decide +kernel, by decide +kernel⟩
abbrev nm_summed : List Str := ["fractions", "found", "one"]
theorem sc_summed : FnScope nm_summed ["fractions"] (defScope (stm 28)) := ⟨rfl, rfl, rfl, by decide +kernel, rfl, by decide +kernel, by decide +kernel⟩
abbrev nm_mean_last : List Str := ["past", "many"]
theorem sc_mean_last : FnScope nm_mean_last ["past", "many"] (defScope (stm 29)) := ⟨rfl, rfl, rfl, by decide +kernel, rfl, by decide +kernel, by decide +kernel⟩
abbrev nm_miss_sum : List Str := ["past", "many", "found", "place", "mean"]
theorem sc_miss_sum : FnScope nm_miss_sum ["past", "many"] (defScope (stm 30)) := ⟨rfl, rfl, rfl, by decide +kernel, rfl, by decide +kernel, by decide +kernel⟩
abbrev nm_best_many : List Str := ["past", "most", "many", "best", "least", "mean"]
theorem sc_best_many : FnScope nm_best_many ["past", "most"] (defScope (stm 31)) := ⟨rfl, rfl, rfl, by decide +kernel, rfl, by decide +kernel, by decide +kernel⟩
abbrev nm_next_want : List Str := ["past", "most", "over", "under"]
theorem sc_next_want : FnScope nm_next_want ["past", "most"] (defScope (stm 32)) := ⟨rfl, rfl, rfl, by decide +kernel, rfl, by decide +kernel, by decide +kernel⟩
abbrev nm__law_pool : List Str := ["script", "many", "left", "pool", "jar", "k", "at", "cell"]
theorem sc__law_pool : FnScope nm__law_pool ["script", "many"] (defScope (stm 34)) := ⟨rfl, rfl, rfl, by decide +kernel, rfl, by decide +kernel, by decide +kernel⟩
abbrev nm__law_draw : List Str := ["pool", "many"]
theorem sc__law_draw : FnScope nm__law_draw ["pool", "many"] (defScope (stm 35)) := ⟨rfl, rfl, rfl, by decide +kernel, rfl, by decide +kernel, by decide +kernel⟩
abbrev nm__law_same : List Str := ["told", "due", "k"]
theorem sc__law_same : FnScope nm__law_same ["told", "due"] (defScope (stm 36)) := ⟨rfl, rfl, rfl, by decide +kernel, rfl, by decide +kernel, by decide +kernel⟩
abbrev nm__law_fraction : List Str := ["over", "under", "one", "other", "turn", "rest"]
theorem sc__law_fraction : FnScope nm__law_fraction ["over", "under"] (defScope (stm 37)) := ⟨rfl, rfl, rfl, by decide +kernel, rfl, by decide +kernel, by decide +kernel⟩
abbrev nm__law_numbers : List Str := ["pool", "many", "great", "numbers", "k", "one", "other"]
theorem sc__law_numbers : FnScope nm__law_numbers ["pool", "many"] (defScope (stm 38)) := ⟨rfl, rfl, rfl, by decide +kernel, rfl, by decide +kernel, by decide +kernel⟩
abbrev nm__law_miss : List Str := ["past", "many", "over", "place", "gap"]
theorem sc__law_miss : FnScope nm__law_miss ["past", "many"] (defScope (stm 39)) := ⟨rfl, rfl, rfl, by decide +kernel, rfl, by decide +kernel, by decide +kernel⟩
abbrev nm__law_best : List Str := ["past", "most", "best", "many", "one", "other"]
theorem sc__law_best : FnScope nm__law_best ["past", "most"] (defScope (stm 40)) := ⟨rfl, rfl, rfl, by decide +kernel, rfl, by decide +kernel, by decide +kernel⟩
abbrev nm__law_outlook_holds : List Str := ["past", "most", "many", "given", "due", "best", "last"]
theorem sc__law_outlook_holds : FnScope nm__law_outlook_holds ["past", "most", "many"] (defScope (stm 41)) := ⟨rfl, rfl, rfl, by decide +kernel, rfl, by decide +kernel, by decide +kernel⟩
abbrev nm__law_windows : List Str := ["wants", "lead", "day"]
theorem sc__law_windows : FnScope nm__law_windows ["wants", "lead"] (defScope (stm 42)) := ⟨rfl, rfl, rfl, by decide +kernel, rfl, by decide +kernel, by decide +kernel⟩
abbrev nm__law_level : List Str := ["pool", "spans", "told", "one", "top", "way", "window"]
theorem sc__law_level : FnScope nm__law_level ["pool", "spans", "told"] (defScope (stm 43)) := ⟨rfl, rfl, rfl, by decide +kernel, rfl, by decide +kernel, by decide +kernel⟩
abbrev nm__law_rows_hold : List Str := ["wants", "lead", "height", "spans", "rows", "window", "given", "row"]
theorem sc__law_rows_hold : FnScope nm__law_rows_hold ["wants", "lead", "height", "spans"] (defScope (stm 44)) := ⟨rfl, rfl, rfl, by decide +kernel, rfl, by decide +kernel, by decide +kernel⟩
abbrev nm__law_levels_hold : List Str := ["wants", "lead", "height", "spans", "days", "falling", "due", "window"]
theorem sc__law_levels_hold : FnScope nm__law_levels_hold ["wants", "lead", "height", "spans", "days"] (defScope (stm 45)) := ⟨rfl, rfl, rfl, by decide +kernel, rfl, by decide +kernel, by decide +kernel⟩
abbrev nm__law_scheme : List Str := ["wants", "lead", "height", "scheme", "rest", "day", "comes"]
theorem sc__law_scheme : FnScope nm__law_scheme ["wants", "lead", "height"] (defScope (stm 46)) := ⟨rfl, rfl, rfl, by decide +kernel, rfl, by decide +kernel, by decide +kernel⟩
abbrev nm__law_costs : List Str := ["wants", "prices", "fixed", "night", "least", "high", "best", "count", "nights", "back", "low", "cost"]
theorem sc__law_costs : FnScope nm__law_costs ["wants", "prices", "fixed", "night"] (defScope (stm 47)) := ⟨rfl, rfl, rfl, by decide +kernel, rfl, by decide +kernel, by decide +kernel⟩
abbrev nm__law_costs_hold : List Str := ["wants", "prices", "fixed", "night", "costs", "given"]
theorem sc__law_costs_hold : FnScope nm__law_costs_hold ["wants", "prices", "fixed", "night"] (defScope (stm 48)) := ⟨rfl, rfl, rfl, by decide +kernel, rfl, by decide +kernel, by decide +kernel⟩
abbrev nm__law_scheme_holds : List Str := ["wants", "prices", "fixed", "night", "scheme", "good", "days", "due", "there", "day", "e"]
theorem sc__law_scheme_holds : FnScope nm__law_scheme_holds ["wants", "prices", "fixed", "night", "scheme", "good"] (defScope (stm 49)) := ⟨rfl, rfl, rfl, by decide +kernel, rfl, by decide +kernel, by decide +kernel⟩
abbrev nm_law : List Str := ["script", "pool", "past", "most", "many", "best", "told", "wants", "lead", "spans", "height", "prices", "fixed", "night", "top", "scheme", "day", "window"]
theorem sc_law : FnScope nm_law ["script"] (defScope (stm 50)) := ⟨rfl, rfl, rfl, by decide +kernel, rfl, by decide +kernel, by decide +kernel⟩

structure Blk (M : Mo) : Prop where
  all : M.mg "all" = none
section
variable {M : Mo}
def c1 : Ct ((Bool × List Int) × (Nat × Int)) := { As := fun g => [Sq g.1.1 I g.1.2, I (g.2.1 : Int), I g.2.2], pre := fun g => g.1.2.length ≤ 100, S := fun g => Sq false P2 (lrw g.1.2 g.2.1 g.2.2) }
theorem ok1 (Bl : Blt M) (P : Pr M "level_rows" (stm 6) ["wants", "lead", "level"]) : Gd M 1 "level_rows" ["wants", "lead", "level"] c1 := by
  refine P.gd sc_level_rows (by intro _; rfl) fun X B0 F0 D g hp hR hN => ?_
  obtain ⟨⟨bb, wants⟩, lead, level⟩ := g
  dsimp only [mkΓ, c1] at hp hR ⊢
  refine ds_par (a_cons (d_name (Has.s (Has.s Has.z))) (a_cons d_int a_nil)) (Put.s (Put.s (Put.s (Put.s Put.z)))) (Put.s (Put.s (Put.s (Put.s (Put.s Put.z))))) ?_
  refine ds_own0 (n_lstQ (P2) ((tab (fun d => st wants lead level (d + 1)) 0)) a_nil) (Put.s (Put.s (Put.s Put.z))) fun l_found => ⟨_, (Put.s (Put.s (Put.s Put.z))), ?_⟩
  refine ds_forF (fun i => ([("wants", some (Sq bb I wants)), ("lead", some (I (lead : Int))), ("level", some (I level)), ("found", some (At l_found)), ("there", some (I (st wants lead level i).1)), ("owed", some (I (st wants lead level i).2)), ("day", none), ("want", none), ("sent", none)] : En)) (fun i => [(l_found, Cl P2 (tab (fun d => st wants lead level (d + 1)) i))]) (i_enum (d_name Has.z) Bl.enumerate) (by walk_at "fg") rfl ?_ ?_
  · rintro B1 hB1 d ⟨_, v⟩ hi ⟨rfl, hv⟩
    dsimp only at hv
    obtain rfl := w_at hv
    have hi : d < wants.length := hi
    refine ⟨_, _, (g_two (g_name (Put.s (Put.s (Put.s (Put.s (Put.s (Put.s Put.z))))))) (g_name (Put.s (Put.s (Put.s (Put.s (Put.s (Put.s (Put.s Put.z))))))))), ?_⟩
    refine ds_ifJ ([("wants", some (Sq bb I wants)), ("lead", some (I (lead : Int))), ("level", some (I level)), ("found", some (At l_found)), ("there", some (I (tha wants lead d (st wants lead level d).1))), ("owed", some (I (st wants lead level d).2)), ("day", some (I (d : Int))), ("want", some (I (w wants d))), ("sent", none)] : En) [(l_found, Cl P2 (tab (fun d => st wants lead level (d + 1)) d))] rfl (t_ge (d_name (Has.s (Has.s (Has.s (Has.s (Has.s (Has.s Has.z))))))) (d_name (Has.s Has.z))) ?_ ?_ ?_
    · intro h
      have h : (lead : Int) ≤ d := of_decide_eq_true h.symm
      refine ds_augAdd (Has.s (Has.s (Has.s (Has.s Has.z)))) (d_ix (d_name Has.z) (d_sub (d_name (Has.s (Has.s (Has.s (Has.s (Has.s (Has.s Has.z))))))) (d_name (Has.s Has.z))) (atI_of (j := d - lead) (by dsimp only; omega) (at_w (by omega)))) (Put.s (Put.s (Put.s (Put.s Put.z)))) ?_
      exact ds_meet (by unfold tha; rw [if_pos (by omega)]; walk_at "fg") rfl rfl rfl
    · intro h
      have h : ¬ (lead : Int) ≤ d := of_decide_eq_false h.symm
      exact ds_meet (by unfold tha; rw [if_neg (by omega)]; walk_at "fg") rfl rfl rfl
    · refine ds_augAdd (Has.s (Has.s (Has.s (Has.s (Has.s Has.z))))) (d_name (Has.s (Has.s (Has.s (Has.s (Has.s (Has.s (Has.s Has.z)))))))) (Put.s (Put.s (Put.s (Put.s (Put.s Put.z))))) ?_
      refine ds_asg (d_min2 (d_name (Has.s (Has.s (Has.s (Has.s Has.z))))) (d_name (Has.s (Has.s (Has.s (Has.s (Has.s Has.z)))))) Bl.min) (Put.s (Put.s (Put.s (Put.s (Put.s (Put.s (Put.s (Put.s Put.z)))))))) ?_
      refine ds_augSub (Has.s (Has.s (Has.s (Has.s Has.z)))) (d_name (Has.s (Has.s (Has.s (Has.s (Has.s (Has.s (Has.s (Has.s Has.z))))))))) (Put.s (Put.s (Put.s (Put.s Put.z)))) ?_
      refine ds_augSub (Has.s (Has.s (Has.s (Has.s (Has.s Has.z))))) (d_name (Has.s (Has.s (Has.s (Has.s (Has.s (Has.s (Has.s (Has.s Has.z))))))))) (Put.s (Put.s (Put.s (Put.s (Put.s Put.z))))) ?_
      refine ds_appQ (P2) ((st wants lead level (d + 1))) (d_name (Has.s (Has.s (Has.s Has.z)))) (d_tup (a_cons (d_name (Has.s (Has.s (Has.s (Has.s Has.z))))) (a_cons (d_name (Has.s (Has.s (Has.s (Has.s (Has.s Has.z)))))) a_nil))) rfl (by walk_at "hold") (by walk_at "swp") (by rw [tab_len]; show _ < 16777216; omega) ?_
      exact ds_turnF (by walk_at "fg") (by rw [tab_succ]) rfl rfl
  · refine ds_freeze (Upg.s (Upg.s (Upg.s Upg.z))) (by walk_at "tak") ?_
    exact ds_ret0 hR (d_tuple (d_name (Has.s (Has.s (Has.s Has.z)))) Bl.tuple) rfl
def c2 : Ct ((Bool × List Int) × (Nat × Int)) := { As := fun g => [Sq g.1.1 I g.1.2, I (g.2.1 : Int), I g.2.2], pre := fun g => g.1.2.length ≤ 100, S := fun g => I ((((lrw g.1.2 g.2.1 g.2.2).filter fun x => decide (0 < x.2)).length : Nat) : Int) }
theorem ok2 (Bl : Blt M) (P : Pr M "owed_days" (stm 7) ["wants", "lead", "level"]) (G1 : Gd M 1 "level_rows" ["wants", "lead", "level"] c1) : Gd M 2 "owed_days" ["wants", "lead", "level"] c2 := by
  refine P.gd sc_owed_days (by intro _; rfl) fun X B0 F0 D g hp hR hN => ?_
  obtain ⟨⟨bb, wants⟩, lead, level⟩ := g
  dsimp only [mkΓ, c2] at hp hR ⊢
  have hl : (lrw wants lead level).length = wants.length := tab_len
  refine ds_ret0 hR (d_len (DN.frz (n_lcF (own := [("_", 3), ("owed", 4)]) (Γw := ([("wants", some (Sq bb I wants)), ("lead", some (I (lead : Int))), ("level", some (I level)), ("_", none), ("owed", none)] : En)) (R := I) (ys := (lrw wants lead level)) ((fun _ => 1)) ((fun x => decide (0 < x.2))) (blkOk_by (by show blkC nm_owed_days (defScope (stm 7)) _ _ = true; decide +kernel)) (by repeat constructor) (i_seq (d_call0 (t := c1) (((bb, wants), (lead, level))) G1 (Nat.le_of_ble_eq_true rfl) (a_cons (d_name Has.z) (a_cons (d_name (Has.s Has.z)) (a_cons (d_name (Has.s (Has.s Has.z))) a_nil))) rfl hp)) ?_ ?_ ?_ ?_)) Bl.len) (by rw [List.length_map])
  · rfl
  · exact fun i y _ h => h
  · show (lrw wants lead level).length < 16777216
    rw [hl]
    omega
  · rintro i ⟨y1, y2⟩ hi hy
    exact ⟨_, _, (g_two (g_name (Put.s (Put.s (Put.s Put.z)))) (g_name (Put.s (Put.s (Put.s (Put.s Put.z)))))), by simp, (t_gt (d_name (Has.s (Has.s (Has.s (Has.s Has.z))))) d_int), fun _ => d_int⟩
def c3 : Ct ((Bool × List Int) × Nat) := { As := fun g => [Sq g.1.1 I g.1.2, I (g.2 : Int)], pre := fun g => g.1.2.length ≤ 100, S := fun g => Sq false I (tab (win g.1.2 g.2) g.1.2.length) }
theorem cut_win {wants : List Int} {lead d : Nat} {i j : Int} (hi : i = ((d + 1 - lead : Nat) : Int)) (hj : j = ((d + 1 : Nat) : Int)) : (cut wants (some i) (some j)).sum = win wants lead d := by
  subst hi hj
  rw [cut_both (by omega)]
  rfl
theorem ok3 (Bl : Blt M) (P : Pr M "window_sums" (stm 8) ["wants", "lead"]) : Gd M 1 "window_sums" ["wants", "lead"] c3 := by
  refine P.gd sc_window_sums (by intro _; rfl) fun X B0 F0 D g hp hR hN => ?_
  obtain ⟨⟨bb, wants⟩, lead⟩ := g
  dsimp only [mkΓ, c3] at hp hR ⊢
  refine ds_ret0 hR (d_tuple (DN.frz (n_lcM (own := [("day", 2)]) (Γw := ([("wants", some (Sq bb I wants)), ("lead", some (I (lead : Int))), ("day", none)] : En)) (R := I) (blkOk_by (by show blkC nm_window_sums (defScope (stm 8)) _ _ = true; decide +kernel)) (by repeat constructor) (i_rng1 (d_len (d_name Has.z) Bl.len) Bl.range) ((tab (win wants lead) wants.length)) ?_ ?_ ?_)) Bl.tuple) rfl
  · rw [tab_len]; omega
  · show _ < 16777216
    omega
  · rintro i _ z rfl hz
    obtain ⟨hi, rfl⟩ := tab_get' hz
    exact ⟨_, _, (g_name (Put.s (Put.s Put.z))), by simp, DE.eqI (d_sumB (d_sl (d_name Has.z) (o_some (d_max2 d_int (d_add (d_sub (d_name (Has.s (Has.s Has.z))) (d_name (Has.s Has.z))) d_int) Bl.max)) (o_some (d_add (d_name (Has.s (Has.s Has.z))) d_int))) Bl.sum) (cut_win (by omega) (by omega))⟩
def c4 : Ct ((Bool × List Int) × (Nat × Nat)) := { As := fun g => [Sq g.1.1 I g.1.2, I (g.2.1 : Int), I (g.2.2 : Int)], pre := fun g => g.1.2.length ≤ 100, S := fun g => I (lvl (tab (win g.1.2 g.2.1) g.1.2.length) g.2.2) }
theorem ok4 (Bl : Blt M) (P : Pr M "least_level" (stm 9) ["wants", "lead", "days"]) (G3 : Gd M 1 "window_sums" ["wants", "lead"] c3) : Gd M 2 "least_level" ["wants", "lead", "days"] c4 := by
  refine P.gd sc_least_level (by intro _; rfl) fun X B0 F0 D g hp hR hN => ?_
  obtain ⟨⟨bb, wants⟩, lead, days⟩ := g
  dsimp only [mkΓ, c4] at hp hR ⊢
  refine ds_asgE (n_sortedB (ns := tab (win wants lead) wants.length) (d_call0 (t := c3) (((bb, wants), lead)) G3 (Nat.le_of_ble_eq_true rfl) (a_cons (d_name Has.z) (a_cons (d_name (Has.s Has.z)) a_nil)) rfl hp) Bl.sorted).frz (Put.s (Put.s (Put.s Put.z))) fun ys hy => ⟨_, (Put.s (Put.s (Put.s Put.z))), ?_⟩
  obtain rfl := srt_of hy.1 hy.2
  have hl := srt_len (l := tab (win wants lead) wants.length)
  have e : lvl (tab (win wants lead) wants.length) days = if days < wants.length then (srt (tab (win wants lead) wants.length)).getD (wants.length - 1 - days) 0 else 0 := by unfold lvl; rw [tab_len]
  rw [tab_len] at hl
  refine ds_ret0 (ω1 := []) hR (d_if (t_lt (d_name (Has.s (Has.s Has.z))) (d_len (d_name (Has.s (Has.s (Has.s Has.z)))) Bl.len)) (S := I (lvl (tab (win wants lead) wants.length) days)) (fun h => ?_) (fun h => ?_)) rfl
  · have h : (days : Int) < (srt (tab (win wants lead) wants.length)).length := of_decide_eq_true h
    rw [e, if_pos (by omega)]
    exact (d_ix (d_name (Has.s (Has.s (Has.s Has.z)))) (d_sub (d_sub (d_len (d_name (Has.s (Has.s (Has.s Has.z)))) Bl.len) d_int) (d_name (Has.s (Has.s Has.z)))) (atI_of (j := wants.length - 1 - days) (by rw [hl]; omega) (by rw [List.getD_eq_getElem?_getD, List.getElem?_eq_getElem (by omega)]; rfl)))
  · have h : ¬ (days : Int) < (srt (tab (win wants lead) wants.length)).length := of_decide_eq_false h
    rw [e, if_neg (by omega)]
    exact d_int
end
end K27

set_option maxHeartbeats 2000000
/-! K27b: outlooks, the fractions. -/
namespace K27
open PySem PySem.Spec PyProof.Rows L2 ZZ
open Evl (Ex)
local macro_rules | `(tactic| walk_at "has") => `(tactic| (with_reducible first | exact Has.z | exact Has.s Has.z | exact Has.s (Has.s Has.z) | exact Has.s (Has.s (Has.s Has.z)) | exact Has.s (Has.s (Has.s (Has.s Has.z))) | exact Has.s (Has.s (Has.s (Has.s (Has.s Has.z)))) | exact Has.s (Has.s (Has.s (Has.s (Has.s (Has.s Has.z))))) | exact Has.s (Has.s (Has.s (Has.s (Has.s (Has.s (Has.s Has.z))))))))
local macro_rules | `(tactic| walk_at "put") => `(tactic| (with_reducible first | exact Put.z | exact Put.s Put.z | exact Put.s (Put.s Put.z) | exact Put.s (Put.s (Put.s Put.z)) | exact Put.s (Put.s (Put.s (Put.s Put.z))) | exact Put.s (Put.s (Put.s (Put.s (Put.s Put.z)))) | exact Put.s (Put.s (Put.s (Put.s (Put.s (Put.s Put.z))))) | exact Put.s (Put.s (Put.s (Put.s (Put.s (Put.s (Put.s Put.z))))))))
local macro_rules | `(tactic| walk_at "swp") => `(tactic| (with_reducible first | exact Swp.z | exact Swp.s Swp.z | exact Swp.s (Swp.s Swp.z) | exact Swp.s (Swp.s (Swp.s Swp.z)) | exact Swp.s (Swp.s (Swp.s (Swp.s Swp.z))) | exact Swp.s (Swp.s (Swp.s (Swp.s (Swp.s Swp.z)))) | exact Swp.s (Swp.s (Swp.s (Swp.s (Swp.s (Swp.s Swp.z))))) | exact Swp.s (Swp.s (Swp.s (Swp.s (Swp.s (Swp.s (Swp.s Swp.z))))))))
local macro_rules | `(tactic| walk_at "tak") => `(tactic| (with_reducible first | exact Tak.z | exact Tak.s Tak.z | exact Tak.s (Tak.s Tak.z) | exact Tak.s (Tak.s (Tak.s Tak.z)) | exact Tak.s (Tak.s (Tak.s (Tak.s Tak.z))) | exact Tak.s (Tak.s (Tak.s (Tak.s (Tak.s Tak.z)))) | exact Tak.s (Tak.s (Tak.s (Tak.s (Tak.s (Tak.s Tak.z))))) | exact Tak.s (Tak.s (Tak.s (Tak.s (Tak.s (Tak.s (Tak.s Tak.z))))))))
local macro_rules | `(tactic| walk_at "hold") => `(tactic| (with_reducible first | exact Hold.z | exact Hold.s Hold.z | exact Hold.s (Hold.s Hold.z) | exact Hold.s (Hold.s (Hold.s Hold.z)) | exact Hold.s (Hold.s (Hold.s (Hold.s Hold.z))) | exact Hold.s (Hold.s (Hold.s (Hold.s (Hold.s Hold.z)))) | exact Hold.s (Hold.s (Hold.s (Hold.s (Hold.s (Hold.s Hold.z))))) | exact Hold.s (Hold.s (Hold.s (Hold.s (Hold.s (Hold.s (Hold.s Hold.z))))))))
local macro_rules | `(tactic| walk_at "upe") => `(tactic| (with_reducible first | exact UpE.z | exact UpE.s UpE.z | exact UpE.s (UpE.s UpE.z) | exact UpE.s (UpE.s (UpE.s UpE.z)) | exact UpE.s (UpE.s (UpE.s (UpE.s UpE.z))) | exact UpE.s (UpE.s (UpE.s (UpE.s (UpE.s UpE.z)))) | exact UpE.s (UpE.s (UpE.s (UpE.s (UpE.s (UpE.s UpE.z))))) | exact UpE.s (UpE.s (UpE.s (UpE.s (UpE.s (UpE.s (UpE.s UpE.z))))))))
local macro_rules | `(tactic| walk_at "fg") => `(tactic| (repeat (first | exact Fg.nil | (with_reducible refine Fg.keep rfl ?_) | (with_reducible refine Fg.drop ?_))))
local macro_rules | `(tactic| walk_at "nonb") => `(tactic| first | exact nonb_I | exact nonb_No | exact nonb_Bo | exact nonb_S | exact nonb_seq | exact nonb_tup)
local macro_rules | `(tactic| walk_at "istb") => `(tactic| first | exact istb_sc | exact istb_seq | exact istb_tup)

section
variable {M : Mo}
def d1 : Ct (Int × Int) := { As := fun f => [I f.1, I f.2], pre := fun f => 0 < f.2 ∧ f.2 < 1073741824, S := fun f => P2 (red f.1 f.2) }
theorem okd1 (Bl : Blt M) (hgcd : M.mg "gcd" = some (.builtin "math.gcd")) (P : Pr M "reduced" (stm 23) ["over", "under"]) : Gd M 1 "reduced" ["over", "under"] d1 := by
  refine P.gd sc_reduced (by intro _; rfl) fun X B0 F0 D g hp hR hN => ?_
  obtain ⟨o, u⟩ := g
  dsimp only [mkΓ, d1] at hp hR ⊢
  obtain ⟨hu, hu2⟩ := hp
  refine ds_asg (d_gcd (d_name Has.z) (d_name (Has.s Has.z)) hgcd) (Put.s (Put.s Put.z)) ?_
  refine ds_ifF (t_lt (d_name (Has.s Has.z)) d_int) (decide_eq_false (by omega)) (ds_next ?_)
  have g1 := gc_pos (o := o) hu
  have g2 := gc_le (o := o) hu
  have g3 : CDiv o (gc o u) := ⟨g1, by omega⟩
  have g4 : CDiv u (gc o u) := ⟨g1, by omega⟩
  exact ds_ret0 hR (d_tup (a_cons (d_div (d_name Has.z) (d_name (Has.s (Has.s Has.z))) g3) (a_cons (d_div (d_name (Has.s Has.z)) (d_name (Has.s (Has.s Has.z))) g4) a_nil))) rfl
def FrOk (f : Int × Int) : Prop := 0 < f.2 ∧ f.2 < 32768 ∧ f.1.natAbs < 18446744073709551616
theorem frok_mul {f g : Int × Int} (hf : FrOk f) (hg : FrOk g) : 0 < f.2 * g.2 ∧ f.2 * g.2 < 1073741824 := by
  obtain ⟨a1, a2, _⟩ := hf
  obtain ⟨b1, b2, _⟩ := hg
  refine ⟨Int.mul_pos a1 b1, ?_⟩
  have h1 := Int.mul_le_mul_of_nonneg_right (show f.2 ≤ 32767 by omega) (show 0 ≤ g.2 by omega)
  omega
theorem frok_c {f : Int × Int} {i : Int} (hf : FrOk f) : CMul i f.2 := Or.inr ⟨by have := hf.1; omega, by have := hf.2.1; omega⟩
def d2 : Ct ((Int × Int) × (Int × Int)) := { As := fun g => [P2 g.1, P2 g.2], pre := fun g => FrOk g.1 ∧ FrOk g.2, S := fun g => P2 (fadd g.1 g.2) }
theorem okd2 (P : Pr M "added" (stm 24) ["one", "other"]) (D1 : Gd M 1 "reduced" ["over", "under"] d1) : Gd M 2 "added" ["one", "other"] d2 := by
  refine P.gd sc_added (by intro _; rfl) fun X B0 F0 D g hp hR hN => ?_
  obtain ⟨f, g⟩ := g
  dsimp only [mkΓ, d2] at hp hR ⊢
  obtain ⟨hf, hg⟩ := hp
  exact ds_ret0 hR (d_call0 (t := d1) ((f.1 * g.2 + g.1 * f.2, f.2 * g.2)) D1 (Nat.le_of_ble_eq_true rfl) (a_cons (d_add (d_mul (d_ixU (d_name Has.z) d_int rfl) (d_ixU (d_name (Has.s Has.z)) d_int rfl) (frok_c hg)) (d_mul (d_ixU (d_name (Has.s Has.z)) d_int rfl) (d_ixU (d_name Has.z) d_int rfl) (frok_c hf))) (a_cons (d_mul (d_ixU (d_name Has.z) d_int rfl) (d_ixU (d_name (Has.s Has.z)) d_int rfl) (frok_c hg)) a_nil)) rfl (frok_mul hf hg)) rfl
def d3 : Ct ((Int × Int) × (Int × Int)) := { As := fun g => [P2 g.1, P2 g.2], pre := fun g => FrOk g.1 ∧ FrOk g.2, S := fun g => P2 (fmul g.1 g.2) }
theorem okd3 (P : Pr M "multiplied" (stm 25) ["one", "other"]) (D1 : Gd M 1 "reduced" ["over", "under"] d1) : Gd M 2 "multiplied" ["one", "other"] d3 := by
  refine P.gd sc_multiplied (by intro _; rfl) fun X B0 F0 D g hp hR hN => ?_
  obtain ⟨f, g⟩ := g
  dsimp only [mkΓ, d3] at hp hR ⊢
  obtain ⟨hf, hg⟩ := hp
  have h1 : CMul f.1 g.1 := Or.inl (by have := hf.2.2; omega)
  exact ds_ret0 hR (d_call0 (t := d1) ((f.1 * g.1, f.2 * g.2)) D1 (Nat.le_of_ble_eq_true rfl) (a_cons (d_mul (d_ixU (d_name Has.z) d_int rfl) (d_ixU (d_name (Has.s Has.z)) d_int rfl) h1) (a_cons (d_mul (d_ixU (d_name Has.z) d_int rfl) (d_ixU (d_name (Has.s Has.z)) d_int rfl) (frok_c hg)) a_nil)) rfl (frok_mul hf hg)) rfl
def d4 : Ct ((Int × Int) × (Int × Int)) := { As := fun g => [P2 g.1, P2 g.2], pre := fun g => FrOk g.1 ∧ FrOk g.2, S := fun g => P2 (fless g.1 g.2) }
theorem okd4 (P : Pr M "less" (stm 26) ["one", "other"]) (D2 : Gd M 2 "added" ["one", "other"] d2) : Gd M 3 "less" ["one", "other"] d4 := by
  refine P.gd sc_less (by intro _; rfl) fun X B0 F0 D g hp hR hN => ?_
  obtain ⟨f, g⟩ := g
  dsimp only [mkΓ, d4] at hp hR ⊢
  obtain ⟨hf, hg⟩ := hp
  exact ds_ret0 hR (d_call0 (t := d2) ((f, (0 - g.1, g.2))) D2 (Nat.le_of_ble_eq_true rfl) (a_cons (d_name Has.z) (a_cons (d_tup (a_cons (d_sub d_int (d_ixU (d_name (Has.s Has.z)) d_int rfl)) (a_cons (d_ixU (d_name (Has.s Has.z)) d_int rfl) a_nil))) a_nil)) rfl ⟨hf, hg.1, hg.2.1, by have := hg.2.2; show (0 - g.1).natAbs < _; omega⟩) rfl
def d5 : Ct (Int × Int) := { As := fun g => [P2 g], pre := fun g => FrOk g, S := fun g => P2 (fmul g g) }
theorem okd5 (P : Pr M "squared" (stm 27) ["one"]) (D3 : Gd M 2 "multiplied" ["one", "other"] d3) : Gd M 3 "squared" ["one"] d5 := by
  refine P.gd sc_squared (by intro _; rfl) fun X B0 F0 D g hp hR hN => ?_
  dsimp only [mkΓ, d5] at hp hR ⊢
  exact ds_ret0 hR (d_call0 (t := d3) ((g, g)) D3 (Nat.le_of_ble_eq_true rfl) (a_cons (d_name Has.z) (a_cons (d_name Has.z) a_nil)) rfl ⟨hp, hp⟩) rfl
theorem red_ok {o d : Int} (hd : 0 < d) (hd2 : d < 32768) (ho : o.natAbs < 18446744073709551616) : FrOk (red o d) := by
  have h1 := red_pos (o := o) hd
  have h2 := red_le (o := o) hd
  have h3 := red_abs (o := o) hd
  exact ⟨h1, by omega, by omega⟩
def d6 : Ct ((Nat × Int) × (Nat → Int)) := { As := fun g => [L P2 (tab (fun i => red (g.2 i) g.1.2) g.1.1)], pre := fun g => 0 < g.1.2 ∧ g.1.2 < 32768 ∧ (∀ i, i < g.1.1 → (g.2 i).natAbs < 18446744073709551616) ∧ ∀ i, i ≤ g.1.1 → (tot g.2 i).natAbs < 18446744073709551616, S := fun g => P2 (red (tot g.2 g.1.1) g.1.2) }
theorem okd6 (P : Pr M "summed" (stm 28) ["fractions"]) (D2 : Gd M 2 "added" ["one", "other"] d2) : Gd M 3 "summed" ["fractions"] d6 := by
  refine P.gd sc_summed (by intro _; rfl) fun X B0 F0 D g hp hR hN => ?_
  obtain ⟨⟨n, d⟩, a⟩ := g
  dsimp only [mkΓ, d6] at hp hR ⊢
  obtain ⟨h1, h2, h3, h4⟩ := hp
  refine ds_asg (DE.eqS (T := P2 (red (tot a 0) d)) (d_tup (a_cons d_int (a_cons d_int a_nil))) (by show U [I 0, I 1] = P2 (red 0 d); rw [red_zero h1]; rfl)) (Put.s Put.z) ?_
  refine ds_forF (fun i => ([("fractions", some (L P2 (tab (fun i => red (a i) d) n))), ("found", some (P2 (red (tot a i) d))), ("one", none)] : En)) (fun i => []) (i_seq (d_name Has.z)) (by walk_at "fg") rfl ?_ ?_
  · rintro B1 hB1 i y hi hy
    obtain ⟨hi, rfl⟩ := tab_get' hy
    refine ⟨_, _, (g_name (Put.s (Put.s Put.z))), ?_⟩
    refine ds_asg (DE.eqS (T := P2 (red (tot a (i + 1)) d)) (d_call0 (t := d2) ((red (tot a i) d, red (a i) d)) D2 (Nat.le_of_ble_eq_true rfl) (a_cons (d_name (Has.s Has.z)) (a_cons (d_name (Has.s (Has.s Has.z))) a_nil)) rfl ⟨red_ok h1 h2 (h4 i (by omega)), red_ok h1 h2 (h3 i hi)⟩) (by show P2 (fadd _ _) = _; rw [fadd_red h1]; rfl)) (Put.s Put.z) ?_
    exact ds_turnF (by walk_at "fg") rfl rfl rfl
  · rw [tab_len]
    exact ds_ret0 hR (d_name (Has.s Has.z))
end
end K27

set_option maxHeartbeats 2000000
/-! K27c: misses, the best many, the next want. -/
namespace K27
open PySem PySem.Spec PyProof.Rows L2 ZZ
open Evl (Ex)
local macro_rules | `(tactic| walk_at "has") => `(tactic| (with_reducible first | exact Has.z | exact Has.s Has.z | exact Has.s (Has.s Has.z) | exact Has.s (Has.s (Has.s Has.z)) | exact Has.s (Has.s (Has.s (Has.s Has.z))) | exact Has.s (Has.s (Has.s (Has.s (Has.s Has.z)))) | exact Has.s (Has.s (Has.s (Has.s (Has.s (Has.s Has.z))))) | exact Has.s (Has.s (Has.s (Has.s (Has.s (Has.s (Has.s Has.z))))))))
local macro_rules | `(tactic| walk_at "put") => `(tactic| (with_reducible first | exact Put.z | exact Put.s Put.z | exact Put.s (Put.s Put.z) | exact Put.s (Put.s (Put.s Put.z)) | exact Put.s (Put.s (Put.s (Put.s Put.z))) | exact Put.s (Put.s (Put.s (Put.s (Put.s Put.z)))) | exact Put.s (Put.s (Put.s (Put.s (Put.s (Put.s Put.z))))) | exact Put.s (Put.s (Put.s (Put.s (Put.s (Put.s (Put.s Put.z))))))))
local macro_rules | `(tactic| walk_at "swp") => `(tactic| (with_reducible first | exact Swp.z | exact Swp.s Swp.z | exact Swp.s (Swp.s Swp.z) | exact Swp.s (Swp.s (Swp.s Swp.z)) | exact Swp.s (Swp.s (Swp.s (Swp.s Swp.z))) | exact Swp.s (Swp.s (Swp.s (Swp.s (Swp.s Swp.z)))) | exact Swp.s (Swp.s (Swp.s (Swp.s (Swp.s (Swp.s Swp.z))))) | exact Swp.s (Swp.s (Swp.s (Swp.s (Swp.s (Swp.s (Swp.s Swp.z))))))))
local macro_rules | `(tactic| walk_at "tak") => `(tactic| (with_reducible first | exact Tak.z | exact Tak.s Tak.z | exact Tak.s (Tak.s Tak.z) | exact Tak.s (Tak.s (Tak.s Tak.z)) | exact Tak.s (Tak.s (Tak.s (Tak.s Tak.z))) | exact Tak.s (Tak.s (Tak.s (Tak.s (Tak.s Tak.z)))) | exact Tak.s (Tak.s (Tak.s (Tak.s (Tak.s (Tak.s Tak.z))))) | exact Tak.s (Tak.s (Tak.s (Tak.s (Tak.s (Tak.s (Tak.s Tak.z))))))))
local macro_rules | `(tactic| walk_at "hold") => `(tactic| (with_reducible first | exact Hold.z | exact Hold.s Hold.z | exact Hold.s (Hold.s Hold.z) | exact Hold.s (Hold.s (Hold.s Hold.z)) | exact Hold.s (Hold.s (Hold.s (Hold.s Hold.z))) | exact Hold.s (Hold.s (Hold.s (Hold.s (Hold.s Hold.z)))) | exact Hold.s (Hold.s (Hold.s (Hold.s (Hold.s (Hold.s Hold.z))))) | exact Hold.s (Hold.s (Hold.s (Hold.s (Hold.s (Hold.s (Hold.s Hold.z))))))))
local macro_rules | `(tactic| walk_at "upe") => `(tactic| (with_reducible first | exact UpE.z | exact UpE.s UpE.z | exact UpE.s (UpE.s UpE.z) | exact UpE.s (UpE.s (UpE.s UpE.z)) | exact UpE.s (UpE.s (UpE.s (UpE.s UpE.z))) | exact UpE.s (UpE.s (UpE.s (UpE.s (UpE.s UpE.z)))) | exact UpE.s (UpE.s (UpE.s (UpE.s (UpE.s (UpE.s UpE.z))))) | exact UpE.s (UpE.s (UpE.s (UpE.s (UpE.s (UpE.s (UpE.s UpE.z))))))))
local macro_rules | `(tactic| walk_at "fg") => `(tactic| (repeat (first | exact Fg.nil | (with_reducible refine Fg.keep rfl ?_) | (with_reducible refine Fg.drop ?_))))
local macro_rules | `(tactic| walk_at "nonb") => `(tactic| first | exact nonb_I | exact nonb_No | exact nonb_Bo | exact nonb_S | exact nonb_seq | exact nonb_tup)
local macro_rules | `(tactic| walk_at "istb") => `(tactic| first | exact istb_sc | exact istb_seq | exact istb_tup)

section
variable {M : Mo}
/-- any target, the scope known -/
theorem ds_asgH {c : Cc} {X : Cx} {B0 F : Hp} {D : Ends} {Γ Γ1 : En} {ω ω1 : Ws} {e tg : Expr} {S : Sh} {rest : List Stmt} {pos : Pos} {nm : List Str} (he : DE c Γ ω e S ω1) (hg : DG c tg nm S Γ Γ1) (k : DS c X B0 F D Γ1 ω1 rest)
    (hw : ∀ env : Env, env.scope = c.sc → swappedStores [tg] e env = pure none := by (intro env h; cases env; cases h; rfl)) (hs : ∀ env, swapsWithSole [tg] e pos.line env = pure false := by intro _; rfl) (h1 : ∀ env, (assignEach [tg] env).map (·.2) = [assign tg env] := by intro _; rfl) : DS c X B0 F D Γ ω (.Assign [tg] e pos :: rest) := by
  intro fx σ B H hB hE hO
  refine tS.cons (ps_asg pe_w pg_w (hs _) (hw _ fx.sc) (h1 _)) ?_
  refine he X fx F σ B H hE hO _ fun v B1 H1 e1 O1 p1 => ?_
  refine hg.2 X fx σ B1 H1 v (hE.mono e1) O1.ex p1 _ fun σ1 hE1 _ => ?_
  exact k (fx.re hg.1) σ1 B1 H1 (hB.trans e1) hE1 O1
theorem cut_last {l : List Int} {j : Nat} {i : Int} (hi : i = (j : Int)) (h : j ≤ l.length) : (cut l (some i) none).sum = pre l l.length - pre l j := by
  subst hi
  rw [cut_drop, ← sum_part h, List.take_length]
theorem cut_part {l : List Int} {j k : Nat} {i i' : Int} (hi : i = (j : Int)) (hi' : i' = (k : Int)) (h : j ≤ k) : (cut l (some i) (some i')).sum = pre l k - pre l j := by
  subst hi hi'
  rw [cut_both h, sum_part h]
/-- the sum of the last many -/
def lst (past : List Int) (m : Nat) : Int := pre past past.length - pre past (past.length - m)
def d7 : Ct ((Bool × List Int) × Nat) := { As := fun g => [Sq g.1.1 I g.1.2, I (g.2 : Int)], pre := fun g => 1 ≤ g.2 ∧ g.2 ≤ g.1.2.length ∧ g.1.2.length ≤ 100, S := fun g => P2 (red (lst g.1.2 g.2) (g.2 : Int)) }
theorem okd7 (Bl : Blt M) (P : Pr M "mean_last" (stm 29) ["past", "many"]) (D1 : Gd M 1 "reduced" ["over", "under"] d1) : Gd M 2 "mean_last" ["past", "many"] d7 := by
  refine P.gd sc_mean_last (by intro _; rfl) fun X B0 F0 D g hp hR hN => ?_
  obtain ⟨⟨bb, past⟩, m⟩ := g
  dsimp only [mkΓ, d7] at hp hR ⊢
  have e := cut_last (l := past) (j := past.length - m) (i := (past.length : Int) - (m : Int)) (by omega) (by omega)
  exact ds_ret0 hR (d_call0 (t := d1) (((cut past (some ((past.length : Int) - (m : Int))) none).sum, (m : Int))) D1 (Nat.le_of_ble_eq_true rfl) (a_cons (d_sumB (d_sl (d_name Has.z) (o_some (d_sub (d_len (d_name Has.z) Bl.len) (d_name (Has.s Has.z)))) o_none) Bl.sum) (a_cons (d_name (Has.s Has.z)) a_nil)) rfl ⟨by show (0 : Int) < m; omega, by show (m : Int) < _; omega⟩) (by show P2 (red (cut past (some ((past.length : Int) - (m : Int))) none).sum (m : Int)) = _; rw [e]; rfl)
def d8 : Ct ((Bool × List Int) × Nat) := { As := fun g => [Sq g.1.1 I g.1.2, I (g.2 : Int)], pre := fun g => 1 ≤ g.2 ∧ g.2 < g.1.2.length ∧ Pst g.1.2, S := fun g => P2 (red (mss g.1.2 g.2) ((g.2 : Int) * (g.2 : Int))) }
theorem okd8 (Bl : Blt M) (P : Pr M "miss_sum" (stm 30) ["past", "many"]) (D1 : Gd M 1 "reduced" ["over", "under"] d1) (D4 : Gd M 3 "less" ["one", "other"] d4) (D5 : Gd M 3 "squared" ["one"] d5) (D6 : Gd M 3 "summed" ["fractions"] d6) : Gd M 4 "miss_sum" ["past", "many"] d8 := by
  refine P.gd sc_miss_sum (by intro _; rfl) fun X B0 F0 D g hp hR hN => ?_
  obtain ⟨⟨bb, past⟩, m⟩ := g
  dsimp only [mkΓ, d8] at hp hR ⊢
  obtain ⟨hm1, hm2, hp⟩ := hp
  have hl := hp.1
  have hm : (0 : Int) < m := by omega
  obtain ⟨q1, q2⟩ := sq_in hm1 (by omega)
  refine ds_own0 (n_lstQ (P2) ((tab (fun i => red (gsq past m i) ((m : Int) * (m : Int))) 0)) a_nil) (Put.s (Put.s Put.z)) fun l_found => ⟨_, (Put.s (Put.s Put.z)), ?_⟩
  refine ds_forF (fun i => ([("past", some (Sq bb I past)), ("many", some (I (m : Int))), ("found", some (At l_found)), ("place", none), ("mean", none)] : En)) (fun i => [(l_found, Cl P2 (tab (fun i => red (gsq past m i) ((m : Int) * (m : Int))) i))]) (i_rng2 (d_name (Has.s Has.z)) (d_len (d_name Has.z) Bl.len) Bl.range) (by walk_at "fg") rfl ?_ ?_
  · rintro B1 hB1 i _ hi rfl
    have hi : m + i < past.length := by omega
    have e := cut_part (l := past) (j := i) (k := m + i) (i := (m : Int) + (i : Int) - (m : Int)) (i' := (m : Int) + (i : Int)) (by omega) (by omega) (by omega)
    have b1 := pre_in (k := m + i) hp.2
    have b2 := pre_in (k := i) hp.2
    have b3 := w_in (k := m + i) hp.2
    have b4 := gap_in hp hi
    refine ⟨_, _, (g_name (Put.s (Put.s (Put.s Put.z)))), ?_⟩
    refine ds_asg (DE.eqS (T := P2 (red (pre past (m + i) - pre past i) (m : Int))) (d_call0 (t := d1) (((cut past (some ((m : Int) + (i : Int) - (m : Int))) (some ((m : Int) + (i : Int)))).sum, (m : Int))) D1 (Nat.le_of_ble_eq_true rfl) (a_cons (d_sumB (d_sl (d_name Has.z) (o_some (d_sub (d_name (Has.s (Has.s (Has.s Has.z)))) (d_name (Has.s Has.z)))) (o_some (d_name (Has.s (Has.s (Has.s Has.z)))))) Bl.sum) (a_cons (d_name (Has.s Has.z)) a_nil)) rfl ⟨hm, by show (m : Int) < _; omega⟩) (by show P2 (red (cut past (some ((m : Int) + (i : Int) - (m : Int))) (some ((m : Int) + (i : Int)))).sum (m : Int)) = _; rw [e])) (Put.s (Put.s (Put.s (Put.s Put.z)))) ?_
    have f1 : FrOk (w past (m + i), 1) := ⟨(show (0 : Int) < 1 by decide), (show (1 : Int) < 32768 by decide), by show (w past (m + i)).natAbs < _; omega⟩
    have f2 : FrOk (red (pre past (m + i) - pre past i) (m : Int)) := red_ok hm (by omega) (by omega)
    have f3 : fless (w past (m + i), 1) (red (pre past (m + i) - pre past i) (m : Int)) = red (gap past m i) (m : Int) := fless_red hm
    have f4 : FrOk (red (gap past m i) (m : Int)) := red_ok hm (by omega) (by omega)
    refine ds_app (Rs := P2) (y := red (gsq past m i) ((m : Int) * (m : Int))) (d_name (Has.s (Has.s Has.z))) (DE.eqS (d_call0 (t := d5) ((red (gap past m i) (m : Int))) D5 (Nat.le_of_ble_eq_true rfl) (a_cons (d_call0 (t := d4) (((w past (m + i), 1), red (pre past (m + i) - pre past i) (m : Int))) D4 (Nat.le_of_ble_eq_true rfl) (a_cons (d_tup (a_cons (d_ix (d_name Has.z) (d_name (Has.s (Has.s (Has.s Has.z)))) (atI_of (j := m + i) (by omega) (at_w hi))) (a_cons d_int a_nil))) (a_cons (d_name (Has.s (Has.s (Has.s (Has.s Has.z))))) a_nil)) rfl ⟨f1, f2⟩) a_nil) (by show [P2 (fless _ _)] = _; rw [f3]; rfl) f4) (by show P2 (fmul _ _) = _; rw [fmul_red hm hm]; rfl)) (by walk_at "hold") (by walk_at "swp") (by rw [tab_len]; show _ < 16777216; omega) ?_
    exact ds_turnF (by walk_at "fg") (by rw [tab_succ]) rfl rfl
  · rw [show ((past.length : Int) - (m : Int)).toNat = past.length - m by omega]
    refine ds_freeze (Upg.s (Upg.s Upg.z)) (by walk_at "tak") ?_
    exact ds_ret0 hR (d_call0 (t := d6) (((past.length - m, (m : Int) * (m : Int)), gsq past m)) D6 (Nat.le_of_ble_eq_true rfl) (a_cons (d_name (Has.s (Has.s Has.z))) a_nil) rfl ⟨by show 0 < (m : Int) * (m : Int); omega, by show (m : Int) * (m : Int) < _; omega, fun i hi => by have := gsq_in hp (m := m) (i := i) (by have : i < past.length - m := hi; omega); show (gsq past m i).natAbs < _; omega, fun i hi => by have := tot_in hp (m := m) (k := i) (by have : i ≤ past.length - m := hi; omega); have : i ≤ past.length - m := hi; show (tot (gsq past m) i).natAbs < _; omega⟩) rfl
/-! ### the best many -/
def Bs (past : List Int) : Nat → Sh
  | 0 => No
  | i + 1 => I ((bst past (i + 1) : Nat) : Int)
def Lss (past : List Int) : Nat → Sh
  | 0 => No
  | i + 1 => P2 (red (mss past (bst past (i + 1))) (dn past (bst past (i + 1))))
def d9 : Ct ((Bool × List Int) × Nat) := { As := fun g => [Sq g.1.1 I g.1.2, I (g.2 : Int)], pre := fun g => 1 ≤ g.2 ∧ g.2 < g.1.2.length ∧ Pst g.1.2, S := fun g => I ((bst g.1.2 g.2 : Nat) : Int) }
theorem okd9 (Bl : Blt M) (P : Pr M "best_many" (stm 31) ["past", "most"]) (D3 : Gd M 2 "multiplied" ["one", "other"] d3) (D8 : Gd M 4 "miss_sum" ["past", "many"] d8) : Gd M 5 "best_many" ["past", "most"] d9 := by
  refine P.gd sc_best_many (by intro _; rfl) fun X B0 F0 D g hp hR hN => ?_
  obtain ⟨⟨bb, past⟩, most⟩ := g
  dsimp only [mkΓ, d9] at hp hR ⊢
  obtain ⟨hm1, hm2, hp⟩ := hp
  have hl := hp.1
  refine ds_asgH (Γ1 := ([("past", some (Sq bb I past)), ("most", some (I (most : Int))), ("many", none), ("best", some (No)), ("least", some (No)), ("mean", none)] : En)) (d_tup (a_cons d_none (a_cons d_none a_nil))) (g_two (g_name (Put.s (Put.s (Put.s Put.z)))) (g_name (Put.s (Put.s (Put.s (Put.s Put.z)))))) ?_
  refine ds_forF (fun i => ([("past", some (Sq bb I past)), ("most", some (I (most : Int))), ("many", none), ("best", some (Bs past i)), ("least", some (Lss past i)), ("mean", none)] : En)) (fun i => []) (i_rng2 d_int (d_add (d_min2 (d_name (Has.s Has.z)) (d_sub (d_len (d_name Has.z) Bl.len) d_int) Bl.min) d_int) Bl.range) (by walk_at "fg") rfl ?_ ?_
  · rintro B1 hB1 i _ hi rfl
    have hi : i < most := by omega
    refine ⟨_, _, (g_name (Put.s (Put.s Put.z))), ?_⟩
    obtain ⟨q1, q2⟩ := sq_in (m := i + 1) (by omega) (by omega)
    have q3 := mss_in hp (m := i + 1) (by omega)
    have q4 := dn_in hp (m := i + 1) (by omega) (by omega)
    have e1 : (1 : Int) + (i : Int) = ((i + 1 : Nat) : Int) := by omega
    rw [e1]
    have f1 : FrOk (red (mss past (i + 1)) (((i + 1 : Nat) : Int) * ((i + 1 : Nat) : Int))) := red_ok (by omega) (by omega) (by omega)
    have f2 : FrOk (1, (past.length : Int) - ((i + 1 : Nat) : Int)) := ⟨by show (0 : Int) < (past.length : Int) - ((i + 1 : Nat) : Int); omega, by show (past.length : Int) - ((i + 1 : Nat) : Int) < _; omega, (show (1 : Int).natAbs < 18446744073709551616 by decide)⟩
    refine ds_asg (DE.eqS (T := P2 (red (mss past (i + 1)) (dn past (i + 1)))) (d_call0 (t := d3) ((red (mss past (i + 1)) (((i + 1 : Nat) : Int) * ((i + 1 : Nat) : Int)), (1, (past.length : Int) - ((i + 1 : Nat) : Int)))) D3 (Nat.le_of_ble_eq_true rfl) (a_cons (d_call0 (t := d8) (((bb, past), i + 1)) D8 (Nat.le_of_ble_eq_true rfl) (a_cons (d_name Has.z) (a_cons (d_name (Has.s (Has.s Has.z))) a_nil)) rfl ⟨by show 1 ≤ i + 1; omega, by show i + 1 < past.length; omega, hp⟩) (a_cons (d_tup (a_cons d_int (a_cons (d_sub (d_len (d_name Has.z) Bl.len) (d_name (Has.s (Has.s Has.z)))) a_nil))) a_nil)) rfl ⟨f1, f2⟩) (by show P2 (fmul _ _) = _; rw [fmul_one (by omega) (by omega)]; rfl)) (Put.s (Put.s (Put.s (Put.s (Put.s Put.z))))) ?_
    cases i with
    | zero =>
      refine ds_ifT (t_w (v_or (k := true) (l := true) (t_isN (d_name (Has.s (Has.s (Has.s (Has.s Has.z))))) nonb_No) (fun h => absurd h (by decide)))) rfl ?_
      refine ds_par (a_cons (d_name (Has.s (Has.s Has.z))) (a_cons (d_name (Has.s (Has.s (Has.s (Has.s (Has.s Has.z)))))) a_nil)) (Put.s (Put.s (Put.s Put.z))) (Put.s (Put.s (Put.s (Put.s Put.z)))) ?_
      refine ds_next ?_
      exact ds_turnF (by walk_at "fg") rfl rfl rfl
    | succ i =>
      have b1 := bst_in (past := past) (k := i + 1)
      have b2 := mss_in hp (m := bst past (i + 1)) (by omega)
      have b3 := dn_in hp (m := bst past (i + 1)) (by omega) (by omega)
      have r1 := red_pos (o := mss past (bst past (i + 1))) b3.1
      have r2 := red_le (o := mss past (bst past (i + 1))) b3.1
      have r3 := red_pos (o := mss past (i + 1 + 1)) q4.1
      have r4 := red_le (o := mss past (i + 1 + 1)) q4.1
      have hlt : decide ((red (mss past (i + 1 + 1)) (dn past (i + 1 + 1))).1 * (red (mss past (bst past (i + 1))) (dn past (bst past (i + 1)))).2 < (red (mss past (bst past (i + 1))) (dn past (bst past (i + 1)))).1 * (red (mss past (i + 1 + 1)) (dn past (i + 1 + 1))).2) = btr past (i + 1 + 1) (bst past (i + 1)) := red_lt q4.1 b3.1
      dsimp only [Bs, Lss]
      refine ds_if (t_w (v_or (k := false) (l := btr past (i + 1 + 1) (bst past (i + 1))) (t_isN (d_name (Has.s (Has.s (Has.s (Has.s Has.z))))) nonb_tup) (fun _ => v_or1 (DT.eqB (t_lt (d_mul (d_ixU (d_name (Has.s (Has.s (Has.s (Has.s (Has.s Has.z)))))) d_int rfl) (d_ixU (d_name (Has.s (Has.s (Has.s (Has.s Has.z))))) d_int rfl) (Or.inr ⟨by omega, by omega⟩)) (d_mul (d_ixU (d_name (Has.s (Has.s (Has.s (Has.s Has.z))))) d_int rfl) (d_ixU (d_name (Has.s (Has.s (Has.s (Has.s (Has.s Has.z)))))) d_int rfl) (Or.inr ⟨by omega, by omega⟩))) hlt)))) ?_ ?_
      · intro h
        have h : btr past (i + 1 + 1) (bst past (i + 1)) = true := h.symm
        refine ds_par (a_cons (d_name (Has.s (Has.s Has.z))) (a_cons (d_name (Has.s (Has.s (Has.s (Has.s (Has.s Has.z)))))) a_nil)) (Put.s (Put.s (Put.s Put.z))) (Put.s (Put.s (Put.s (Put.s Put.z)))) ?_
        refine ds_next ?_
        have e2 := bst_yes (past := past) (k := i + 1) (by omega) h
        exact ds_turnF (by dsimp only [Bs, Lss]; rw [e2]; walk_at "fg") rfl rfl rfl
      · intro h
        have h : btr past (i + 1 + 1) (bst past (i + 1)) = false := h.symm
        refine ds_next ?_
        have e2 := bst_no (past := past) (k := i + 1) (by omega) h
        exact ds_turnF (by dsimp only [Bs, Lss]; rw [e2]; walk_at "fg") rfl rfl rfl
  · have e : ((min (most : Int) ((past.length : Int) - 1) + 1) - 1).toNat = most := by omega
    rw [e]
    obtain ⟨k, rfl⟩ : ∃ k, most = k + 1 := ⟨most - 1, by omega⟩
    exact ds_ret0 hR (d_name (Has.s (Has.s (Has.s Has.z))))
def d10 : Ct ((Bool × List Int) × Nat) := { As := fun g => [Sq g.1.1 I g.1.2, I (g.2 : Int)], pre := fun g => 1 ≤ g.2 ∧ g.2 < g.1.2.length ∧ Pst g.1.2, S := fun g => I ((lst g.1.2 (bst g.1.2 g.2) + ((bst g.1.2 g.2 : Nat) : Int) - 1) / ((bst g.1.2 g.2 : Nat) : Int)) }
theorem okd10 (Bl : Blt M) (P : Pr M "next_want" (stm 32) ["past", "most"]) (D7 : Gd M 2 "mean_last" ["past", "many"] d7) (D9 : Gd M 5 "best_many" ["past", "most"] d9) : Gd M 6 "next_want" ["past", "most"] d10 := by
  refine P.gd sc_next_want (by intro _; rfl) fun X B0 F0 D g hp hR hN => ?_
  obtain ⟨⟨bb, past⟩, most⟩ := g
  dsimp only [mkΓ, d10] at hp hR ⊢
  have hp' := hp
  obtain ⟨hm1, hm2, hp⟩ := hp
  have hl := hp.1
  have b1 := bst_in (past := past) (k := most)
  refine ds_asgG (Γ1 := ([("past", some (Sq bb I past)), ("most", some (I (most : Int))), ("over", some (I (red (lst past (bst past most)) ((bst past most : Nat) : Int)).1)), ("under", some (I (red (lst past (bst past most)) ((bst past most : Nat) : Int)).2))] : En)) (d_call0 (t := d7) (((bb, past), bst past most)) D7 (Nat.le_of_ble_eq_true rfl) (a_cons (d_name Has.z) (a_cons (d_call0 (t := d9) (((bb, past), most)) D9 (Nat.le_of_ble_eq_true rfl) (a_cons (d_name Has.z) (a_cons (d_name (Has.s Has.z)) a_nil)) rfl hp') a_nil)) rfl ⟨b1.1, by show bst past most ≤ past.length; omega, by show past.length ≤ 100; omega⟩) (g_two (g_name (Put.s (Put.s Put.z))) (g_name (Put.s (Put.s (Put.s Put.z))))) ?_
  have r1 := red_pos (o := lst past (bst past most)) (u := ((bst past most : Nat) : Int)) (by omega)
  have r2 := red_le (o := lst past (bst past most)) (u := ((bst past most : Nat) : Int)) (by omega)
  exact ds_ret0 hR (d_div (d_sub (d_add (d_name (Has.s (Has.s Has.z))) (d_name (Has.s (Has.s (Has.s Has.z))))) d_int) (d_name (Has.s (Has.s (Has.s Has.z)))) ⟨r1, by omega⟩) (congrArg I (red_ceil (by omega)))
end
end K27

set_option maxHeartbeats 1000000
/-! K27e: orders and their costs, in plain Lean. -/
namespace K27
open ZZ (tab tab_len tab_succ tab_get tab_get' tab_ext tab_set)
theorem sum_tab {f : Nat → Int} : ∀ {n : Nat}, (tab f n).sum = tot f n
  | 0 => rfl
  | n + 1 => by rw [tab_succ, List.sum_append, sum_tab]; simp [tot]
theorem tot_ext {f g : Nat → Int} : ∀ {n : Nat}, (∀ i, i < n → f i = g i) → tot f n = tot g n
  | 0, _ => rfl
  | n + 1, h => by simp only [tot]; rw [tot_ext fun i hi => h i (by omega), h n (by omega)]
theorem pre_tot {l : List Int} : ∀ {k : Nat}, k ≤ l.length → pre l k = tot (w l) k
  | 0, _ => by rw [pre_zero]; rfl
  | k + 1, h => by rw [pre_succ (by omega), pre_tot (by omega)]; rfl
/-- the least of a list -/
def mnl : List Int → Int
  | [] => 0
  | [x] => x
  | x :: y :: l => min x (mnl (y :: l))
theorem mnl_mem : ∀ {l : List Int}, l ≠ [] → mnl l ∈ l
  | [], h => absurd rfl h
  | [x], _ => by simp [mnl]
  | x :: y :: l, _ => by
    have ih := mnl_mem (l := y :: l) (by simp)
    unfold mnl
    rcases Int.le_total x (mnl (y :: l)) with q | q
    · rw [Int.min_eq_left q]; exact List.mem_cons_self
    · rw [Int.min_eq_right q]; exact List.mem_cons_of_mem _ ih
theorem mnl_le : ∀ {l : List Int} {z : Int}, z ∈ l → mnl l ≤ z
  | [x], z, h => by rw [List.mem_singleton.mp h]; exact Int.le_refl _
  | x :: y :: l, z, h => by
    unfold mnl
    rcases List.mem_cons.mp h with rfl | h
    · omega
    · have := mnl_le (l := y :: l) h; omega
theorem mnl_eq {l : List Int} {m : Int} (h1 : m ∈ l) (h2 : ∀ y ∈ l, m ≤ y) : mnl l = m := by
  have a := mnl_le h1
  have b := h2 _ (mnl_mem (l := l) (fun z => by rw [z] at h1; cases h1))
  omega
theorem tab_mem {f : Nat → Int} {n : Nat} {y : Int} : y ∈ tab f n ↔ ∃ i, i < n ∧ y = f i := by
  unfold tab
  rw [List.mem_map]
  exact ⟨fun ⟨i, h, e⟩ => ⟨i, List.mem_range.mp h, e.symm⟩, fun ⟨i, h, e⟩ => ⟨i, List.mem_range.mpr h, e.symm⟩⟩
theorem tab_ne {f : Nat → Int} {n : Nat} (h : 0 < n) : tab f n ≠ [] := fun e => by
  have := congrArg List.length e
  rw [tab_len] at this
  simp at this
  omega
/-! ### a scheme -/
def oc (pieces price fixed : Int) : Int := if pieces = 0 then 0 else fixed + pieces * price
def df (wants sc : List Int) (i : Nat) : Int := w sc i - w wants i
def nts (wants sc : List Int) : List Int := tab (fun d => tot (df wants sc) (d + 1)) wants.length
def cov (wants sc : List Int) : Bool := decide (0 ≤ mnl (nts wants sc)) && decide (tot (df wants sc) wants.length = 0)
def scc (wants prices : List Int) (fixed night : Int) (sc : List Int) : Int := tot (fun i => oc (w sc i) (w prices i) fixed) wants.length + night * (nts wants sc).sum
def dys (sc : List Int) : List Int := ((List.range sc.length).filter fun i => decide (0 < w sc i)).map fun (i : Nat) => (i : Int)
theorem dys_enum {sc : List Int} : ((tab (fun i => ((i : Int), w sc i)) sc.length).filter fun y : Int × Int => decide (0 < y.2)).map (fun y => y.1) = dys sc := by
  unfold tab dys
  rw [List.filter_map, List.map_map]
  rfl
/-! ### least costs -/
def lyi (wants : List Int) (j k : Nat) : Int := tot (fun i => (i : Int) * w wants (j + i)) (k - j)
def spn (wants prices : List Int) (fixed night : Int) (j k : Nat) : Int := oc (pre wants k - pre wants j) (w prices j) fixed + night * lyi wants j k
section
variable (wants prices : List Int) (fixed night : Int)
/-- the costs up to k -/
def Ls : Nat → List Int
  | 0 => [0]
  | k + 1 => Ls k ++ [mnl (tab (fun j => (Ls k).getD j 0 + spn wants prices fixed night j (k + 1)) (k + 1))]
def C (k : Nat) : Int := (Ls wants prices fixed night k).getD k 0
theorem Ls_len : ∀ k, (Ls wants prices fixed night k).length = k + 1
  | 0 => rfl
  | k + 1 => by unfold Ls; rw [List.length_append, Ls_len k]; rfl
theorem Ls_get {j : Nat} : ∀ {d : Nat}, (Ls wants prices fixed night (j + d)).getD j 0 = C wants prices fixed night j
  | 0 => rfl
  | d + 1 => by
    have ih := Ls_get (j := j) (d := d)
    show (Ls wants prices fixed night (j + d + 1)).getD j 0 = _
    unfold Ls
    rw [List.getD_eq_getElem?_getD, List.getElem?_append_left (by rw [Ls_len]; omega), ← List.getD_eq_getElem?_getD]
    exact ih
theorem C_zero : C wants prices fixed night 0 = 0 := rfl
theorem C_succ (k : Nat) : C wants prices fixed night (k + 1) = mnl (tab (fun j => C wants prices fixed night j + spn wants prices fixed night j (k + 1)) (k + 1)) := by
  unfold C
  conv => lhs; unfold Ls
  rw [List.getD_eq_getElem?_getD, List.getElem?_append_right (by rw [Ls_len]; omega), Ls_len, Nat.sub_self]
  show mnl _ = _
  congr 1
  refine tab_ext fun j hj => ?_
  obtain ⟨d, rfl⟩ : ∃ d, k = j + d := ⟨k - j, by omega⟩
  rw [Ls_get]
  rfl
end
end K27

set_option maxHeartbeats 2000000
/-! K27d: orders, spans, least costs. -/
namespace K27
open PySem PySem.Spec PyProof.Rows L2 ZZ
open Evl (Ex)
local macro_rules | `(tactic| walk_at "has") => `(tactic| (with_reducible first | exact Has.z | exact Has.s Has.z | exact Has.s (Has.s Has.z) | exact Has.s (Has.s (Has.s Has.z)) | exact Has.s (Has.s (Has.s (Has.s Has.z))) | exact Has.s (Has.s (Has.s (Has.s (Has.s Has.z)))) | exact Has.s (Has.s (Has.s (Has.s (Has.s (Has.s Has.z))))) | exact Has.s (Has.s (Has.s (Has.s (Has.s (Has.s (Has.s Has.z))))))))
local macro_rules | `(tactic| walk_at "put") => `(tactic| (with_reducible first | exact Put.z | exact Put.s Put.z | exact Put.s (Put.s Put.z) | exact Put.s (Put.s (Put.s Put.z)) | exact Put.s (Put.s (Put.s (Put.s Put.z))) | exact Put.s (Put.s (Put.s (Put.s (Put.s Put.z)))) | exact Put.s (Put.s (Put.s (Put.s (Put.s (Put.s Put.z))))) | exact Put.s (Put.s (Put.s (Put.s (Put.s (Put.s (Put.s Put.z))))))))
local macro_rules | `(tactic| walk_at "swp") => `(tactic| (with_reducible first | exact Swp.z | exact Swp.s Swp.z | exact Swp.s (Swp.s Swp.z) | exact Swp.s (Swp.s (Swp.s Swp.z)) | exact Swp.s (Swp.s (Swp.s (Swp.s Swp.z))) | exact Swp.s (Swp.s (Swp.s (Swp.s (Swp.s Swp.z)))) | exact Swp.s (Swp.s (Swp.s (Swp.s (Swp.s (Swp.s Swp.z))))) | exact Swp.s (Swp.s (Swp.s (Swp.s (Swp.s (Swp.s (Swp.s Swp.z))))))))
local macro_rules | `(tactic| walk_at "tak") => `(tactic| (with_reducible first | exact Tak.z | exact Tak.s Tak.z | exact Tak.s (Tak.s Tak.z) | exact Tak.s (Tak.s (Tak.s Tak.z)) | exact Tak.s (Tak.s (Tak.s (Tak.s Tak.z))) | exact Tak.s (Tak.s (Tak.s (Tak.s (Tak.s Tak.z)))) | exact Tak.s (Tak.s (Tak.s (Tak.s (Tak.s (Tak.s Tak.z))))) | exact Tak.s (Tak.s (Tak.s (Tak.s (Tak.s (Tak.s (Tak.s Tak.z))))))))
local macro_rules | `(tactic| walk_at "hold") => `(tactic| (with_reducible first | exact Hold.z | exact Hold.s Hold.z | exact Hold.s (Hold.s Hold.z) | exact Hold.s (Hold.s (Hold.s Hold.z)) | exact Hold.s (Hold.s (Hold.s (Hold.s Hold.z))) | exact Hold.s (Hold.s (Hold.s (Hold.s (Hold.s Hold.z)))) | exact Hold.s (Hold.s (Hold.s (Hold.s (Hold.s (Hold.s Hold.z))))) | exact Hold.s (Hold.s (Hold.s (Hold.s (Hold.s (Hold.s (Hold.s Hold.z))))))))
local macro_rules | `(tactic| walk_at "upe") => `(tactic| (with_reducible first | exact UpE.z | exact UpE.s UpE.z | exact UpE.s (UpE.s UpE.z) | exact UpE.s (UpE.s (UpE.s UpE.z)) | exact UpE.s (UpE.s (UpE.s (UpE.s UpE.z))) | exact UpE.s (UpE.s (UpE.s (UpE.s (UpE.s UpE.z)))) | exact UpE.s (UpE.s (UpE.s (UpE.s (UpE.s (UpE.s UpE.z))))) | exact UpE.s (UpE.s (UpE.s (UpE.s (UpE.s (UpE.s (UpE.s UpE.z))))))))
local macro_rules | `(tactic| walk_at "fg") => `(tactic| (repeat (first | exact Fg.nil | (with_reducible refine Fg.keep rfl ?_) | (with_reducible refine Fg.drop ?_))))
local macro_rules | `(tactic| walk_at "nonb") => `(tactic| first | exact nonb_I | exact nonb_No | exact nonb_Bo | exact nonb_S | exact nonb_seq | exact nonb_tup)
local macro_rules | `(tactic| walk_at "istb") => `(tactic| first | exact istb_sc | exact istb_seq | exact istb_tup)

section
variable {M : Mo}
def e1 : Ct Int := { As := fun v => [I v], pre := fun v => 0 ≤ v, S := fun v => Bo true }
theorem oke1 (Bl : Blt M) (P : Pr M "is_amount_of_pieces" (stm 11) ["value"]) : Gd M 1 "is_amount_of_pieces" ["value"] e1 := by
  refine P.gd sc_is_amount_of_pieces (by intro _; rfl) fun X B0 F0 D v hp hR hN => ?_
  dsimp only [mkΓ, e1] at hp hR ⊢
  exact ds_ret0 hR (d_and (d_isi (m := "int") (d_name Has.z) (fun K => ty_int) (by rfl) Bl.isinstance Bl.int (by decide +kernel)) (fun _ => (d_and (d_not (d_isi (m := "bool") (d_name Has.z) (fun K => ty_int) (by rfl) Bl.isinstance Bl.bool (by decide +kernel))) (fun _ => (d_one (d_ge (d_name Has.z) d_int)))))) (by rw [decide_eq_true hp]; simp; exact congrArg Bo (by decide +kernel))
def e2 : Ct ((Bool × List Int) × List Int) := { As := fun g => [Sq g.1.1 I g.1.2, Sq false I g.2], pre := fun g => g.2.length = g.1.2.length ∧ g.1.2.length ≤ 100 ∧ ∀ x ∈ g.2, 0 ≤ x, S := fun _ => Bo true }
theorem oke2 (Bl : Blt M) (Bk : Blk M) (P : Pr M "is_scheme" (stm 12) ["wants", "value"]) (E1 : Gd M 1 "is_amount_of_pieces" ["value"] e1) : Gd M 2 "is_scheme" ["wants", "value"] e2 := by
  refine P.gd sc_is_scheme (by intro _; rfl) fun X B0 F0 D g hp hR hN => ?_
  obtain ⟨⟨bb, wants⟩, sc⟩ := g
  dsimp only [mkΓ, e2] at hp hR ⊢
  obtain ⟨h1, h2, h3⟩ := hp
  refine ds_ifF (t_w (v_or (k := false) (l := false) (DT.eqB (t_notD (t_val (d_isi (m := "tuple") (d_name (Has.s Has.z)) (fun K => ty_tup) (by rfl) Bl.isinstance Bl.tuple (by decide +kernel)))) rfl) (fun _ => v_or1 (DT.eqB (t_neI (d_len (d_name (Has.s Has.z)) Bl.len) (d_len (d_name Has.z) Bl.len)) (by rw [h1]; simp))))) rfl (ds_next ?_)
  have hall : (sc.map fun _ => true).all id = true := by rw [List.all_map]; exact List.all_eq_true.mpr fun _ _ => rfl
  refine ds_ret0 hR (d_allB (DN.frz (n_lcM (own := [("part", 2)]) (Γw := ([("wants", some (Sq bb I wants)), ("value", some (Sq false I sc)), ("part", none)] : En)) (R := Bo) (blkOk_by (by show blkC nm_is_scheme (defScope (stm 12)) _ _ = true; decide +kernel)) (by repeat constructor) (i_seq (d_name (Has.s Has.z))) ((sc.map fun _ => true)) ?_ ?_ ?_)) Bk.all) (congrArg Bo hall)
  · rw [List.length_map]
  · show _ < 16777216
    omega
  · intro i y z hy hz
    rw [List.getElem?_map, hy] at hz
    obtain rfl := Option.some.inj hz
    exact ⟨_, _, (g_name (Put.s (Put.s Put.z))), by simp, (d_call0 (t := e1) (y) E1 (Nat.le_of_ble_eq_true rfl) (a_cons (d_name (Has.s (Has.s Has.z))) a_nil) rfl (h3 y (List.mem_of_getElem? hy)))⟩
def e3 : Ct ((Bool × List Int) × List Int) := { As := fun g => [Sq g.1.1 I g.1.2, Sq false I g.2], pre := fun g => g.2.length = g.1.2.length ∧ g.1.2.length ≤ 100, S := fun g => L I (nts g.1.2 g.2) }
theorem oke3 (Bl : Blt M) (P : Pr M "nights_of" (stm 13) ["wants", "scheme"]) : Gd M 1 "nights_of" ["wants", "scheme"] e3 := by
  refine P.gd sc_nights_of (by intro _; rfl) fun X B0 F0 D g hp hR hN => ?_
  obtain ⟨⟨bb, wants⟩, sc⟩ := g
  dsimp only [mkΓ, e3] at hp hR ⊢
  obtain ⟨h1, h2⟩ := hp
  refine ds_own0 (n_lstQ (I) ((tab (fun d => tot (df wants sc) (d + 1)) 0)) a_nil) (Put.s (Put.s Put.z)) fun l_lying => ⟨_, (Put.s (Put.s Put.z)), ?_⟩
  refine ds_asg d_int (Put.s (Put.s (Put.s Put.z))) ?_
  refine ds_forF (fun i => ([("wants", some (Sq bb I wants)), ("scheme", some (Sq false I sc)), ("lying", some (At l_lying)), ("now", some (I (tot (df wants sc) i))), ("want", none), ("ordered", none)] : En)) (fun i => [(l_lying, Cl I (tab (fun d => tot (df wants sc) (d + 1)) i))]) (i_zip (d_name Has.z) (d_name (Has.s Has.z)) Bl.zip) (by walk_at "fg") rfl ?_ ?_
  · rintro B1 hB1 i ⟨y1, y2⟩ hi ⟨hy1, hy2⟩
    dsimp only at hy1 hy2
    obtain rfl := w_at hy1
    obtain rfl := w_at hy2
    have hi : i < wants.length := by omega
    refine ⟨_, _, (g_two (g_name (Put.s (Put.s (Put.s (Put.s Put.z))))) (g_name (Put.s (Put.s (Put.s (Put.s (Put.s Put.z))))))), ?_⟩
    refine ds_augAdd (Has.s (Has.s (Has.s Has.z))) (d_sub (d_name (Has.s (Has.s (Has.s (Has.s (Has.s Has.z)))))) (d_name (Has.s (Has.s (Has.s (Has.s Has.z)))))) (Put.s (Put.s (Put.s Put.z))) ?_
    refine ds_app (d_name (Has.s (Has.s Has.z))) (d_name (Has.s (Has.s (Has.s Has.z)))) (by walk_at "hold") (by walk_at "swp") (by rw [tab_len]; show _ < 16777216; omega) ?_
    exact ds_turnF (by walk_at "fg") (by rw [tab_succ]; rfl) rfl rfl
  · rw [h1, Nat.min_self]
    refine ds_freeze (Upg.s (Upg.s Upg.z)) (by walk_at "tak") ?_
    exact ds_ret0 hR (d_name (Has.s (Has.s Has.z)))
def e4 : Ct ((Bool × List Int) × List Int) := { As := fun g => [Sq g.1.1 I g.1.2, Sq false I g.2], pre := fun g => g.2.length = g.1.2.length ∧ g.1.2.length ≤ 100 ∧ (∀ x ∈ g.2, 0 ≤ x) ∧ 1 ≤ g.1.2.length, S := fun g => Bo (cov g.1.2 g.2) }
theorem oke4 (Bl : Blt M) (P : Pr M "covers" (stm 14) ["wants", "scheme"]) (E2 : Gd M 2 "is_scheme" ["wants", "value"] e2) (E3 : Gd M 1 "nights_of" ["wants", "scheme"] e3) : Gd M 3 "covers" ["wants", "scheme"] e4 := by
  refine P.gd sc_covers (by intro _; rfl) fun X B0 F0 D g hp hR hN => ?_
  obtain ⟨⟨bb, wants⟩, sc⟩ := g
  dsimp only [mkΓ, e4] at hp hR ⊢
  obtain ⟨h1, h2, h3, h4⟩ := hp
  refine ds_ifF (t_notD (t_val (d_call0 (t := e2) (((bb, wants), sc)) E2 (Nat.le_of_ble_eq_true rfl) (a_cons (d_name Has.z) (a_cons (d_name (Has.s Has.z)) a_nil)) rfl ⟨h1, h2, h3⟩))) rfl (ds_next ?_)
  obtain ⟨k, hk⟩ : ∃ k, wants.length = k + 1 := ⟨wants.length - 1, by omega⟩
  refine ds_asg (DE.eqS (T := L I (tab (fun d => tot (df wants sc) (d + 1)) (k + 1))) (d_call0 (t := e3) (((bb, wants), sc)) E3 (Nat.le_of_ble_eq_true rfl) (a_cons (d_name Has.z) (a_cons (d_name (Has.s Has.z)) a_nil)) rfl ⟨h1, h2⟩) (by show L I (nts wants sc) = _; unfold nts; rw [hk])) (Put.s (Put.s Put.z)) ?_
  have e : nts wants sc = tab (fun d => tot (df wants sc) (d + 1)) (k + 1) := by unfold nts; rw [hk]
  have ne : tab (fun d => tot (df wants sc) (d + 1)) (k + 1) ≠ [] := tab_ne (by omega)
  exact ds_ret0 hR (d_and (d_ge (d_minL (d_name (Has.s (Has.s Has.z))) (mnl_mem ne) (fun y hy => mnl_le hy) Bl.min) d_int) (fun _ => (d_one (d_eqI (d_ix (d_name (Has.s (Has.s Has.z))) (d_neg d_int) tab_last) d_int)))) (by unfold cov; rw [e, hk])
def e5 : Ct ((Int × Int) × Int) := { As := fun g => [I g.1.1, I g.1.2, I g.2], pre := fun g => 0 ≤ g.1.2 ∧ g.1.2 ≤ 1000, S := fun g => I (oc g.1.1 g.1.2 g.2) }
theorem oke5 (Bl : Blt M) (P : Pr M "order_cost" (stm 15) ["pieces", "price", "fixed"]) : Gd M 1 "order_cost" ["pieces", "price", "fixed"] e5 := by
  refine P.gd sc_order_cost (by intro _; rfl) fun X B0 F0 D g hp hR hN => ?_
  obtain ⟨⟨pc, pr⟩, fx⟩ := g
  dsimp only [mkΓ, e5] at hp hR ⊢
  refine ds_if (t_eqI (d_name Has.z) d_int) ?_ ?_
  · intro h
    have h : pc = 0 := of_decide_eq_true h.symm
    exact ds_ret0 hR d_int (by unfold oc; rw [if_pos h])
  · intro h
    have h : ¬ pc = 0 := of_decide_eq_false h.symm
    refine ds_next ?_
    exact ds_ret0 hR (d_add (d_name (Has.s (Has.s Has.z))) (d_mul (d_name Has.z) (d_name (Has.s Has.z)) (Or.inr ⟨by omega, by omega⟩))) (by unfold oc; rw [if_neg h])
/-- wants, prices, what a night costs -/
def Oks (wants prices : List Int) (night : Int) : Prop := (wants.length ≤ 100 ∧ ∀ x ∈ wants, 0 ≤ x ∧ x ≤ 999) ∧ (prices.length = wants.length ∧ ∀ x ∈ prices, 0 ≤ x ∧ x ≤ 999) ∧ 0 ≤ night ∧ night ≤ 1000
def e6 : Ct ((Bool × (List Int × List Int)) × ((Int × Int) × List Int)) := { As := fun g => [Sq g.1.1 I g.1.2.1, Sq g.1.1 I g.1.2.2, I g.2.1.1, I g.2.1.2, Sq false I g.2.2], pre := fun g => Oks g.1.2.1 g.1.2.2 g.2.1.2 ∧ g.2.2.length = g.1.2.1.length ∧ (∀ x ∈ g.2.2, 0 ≤ x) ∧ 1 ≤ g.1.2.1.length ∧ cov g.1.2.1 g.2.2 = true, S := fun g => I (scc g.1.2.1 g.1.2.2 g.2.1.1 g.2.1.2 g.2.2) }
theorem oke6 (Bl : Blt M) (P : Pr M "scheme_cost" (stm 16) ["wants", "prices", "fixed", "night", "scheme"]) (E3 : Gd M 1 "nights_of" ["wants", "scheme"] e3) (E4 : Gd M 3 "covers" ["wants", "scheme"] e4) (E5 : Gd M 1 "order_cost" ["pieces", "price", "fixed"] e5) : Gd M 4 "scheme_cost" ["wants", "prices", "fixed", "night", "scheme"] e6 := by
  refine P.gd sc_scheme_cost (by intro _; rfl) fun X B0 F0 D g hp hR hN => ?_
  obtain ⟨⟨bb, wants, prices⟩, ⟨fixed, night⟩, sc⟩ := g
  dsimp only [mkΓ, e6] at hp hR ⊢
  obtain ⟨⟨⟨o1, o2⟩, ⟨o3, o4⟩, o5, o6⟩, h1, h3, h4, h5⟩ := hp
  refine ds_ifF (t_notD (t_val (d_call0 (t := e4) (((bb, wants), sc)) E4 (Nat.le_of_ble_eq_true rfl) (a_cons (d_name Has.z) (a_cons (d_name (Has.s (Has.s (Has.s (Has.s Has.z))))) a_nil)) rfl ⟨h1, o1, h3, h4⟩))) (by show (!cov wants sc) = false; rw [h5]; rfl) (ds_next ?_)
  refine ds_asg (DE.eqI (j := tot (fun i => oc (w sc i) (w prices i) fixed) wants.length) (d_sumB (DN.frz (n_lcM (own := [("pieces", 6), ("price", 7)]) (Γw := ([("wants", some (Sq bb I wants)), ("prices", some (Sq bb I prices)), ("fixed", some (I fixed)), ("night", some (I night)), ("scheme", some (Sq false I sc)), ("orders", none), ("pieces", none), ("price", none)] : En)) (R := I) (blkOk_by (by show blkC nm_scheme_cost (defScope (stm 16)) _ _ = true; decide +kernel)) (by repeat constructor) (i_zip (d_name (Has.s (Has.s (Has.s (Has.s Has.z))))) (d_name (Has.s Has.z)) Bl.zip) ((tab (fun i => oc (w sc i) (w prices i) fixed) wants.length)) ?_ ?_ ?_)) Bl.sum) sum_tab) (Put.s (Put.s (Put.s (Put.s (Put.s Put.z))))) ?_
  · rw [tab_len, h1, o3, Nat.min_self]
  · show _ < 16777216
    omega
  · rintro i ⟨y1, y2⟩ z ⟨hy1, hy2⟩ hz
    obtain ⟨hi, rfl⟩ := tab_get' hz
    dsimp only at hy1 hy2
    obtain rfl := w_at hy1
    obtain rfl := w_at hy2
    have := w_in (k := i) o4
    exact ⟨_, _, (g_two (g_name (Put.s (Put.s (Put.s (Put.s (Put.s (Put.s Put.z))))))) (g_name (Put.s (Put.s (Put.s (Put.s (Put.s (Put.s (Put.s Put.z))))))))), by simp, (d_call0 (t := e5) (((w sc i, w prices i), fixed)) E5 (Nat.le_of_ble_eq_true rfl) (a_cons (d_name (Has.s (Has.s (Has.s (Has.s (Has.s (Has.s Has.z))))))) (a_cons (d_name (Has.s (Has.s (Has.s (Has.s (Has.s (Has.s (Has.s Has.z)))))))) (a_cons (d_name (Has.s (Has.s Has.z))) a_nil))) rfl ⟨this.1, by show w prices i ≤ 1000; omega⟩)⟩
  · exact ds_ret0 hR (d_add (d_name (Has.s (Has.s (Has.s (Has.s (Has.s Has.z)))))) (d_mul (d_name (Has.s (Has.s (Has.s Has.z)))) (d_sumB (d_call0 (t := e3) (((bb, wants), sc)) E3 (Nat.le_of_ble_eq_true rfl) (a_cons (d_name Has.z) (a_cons (d_name (Has.s (Has.s (Has.s (Has.s Has.z))))) a_nil)) rfl ⟨h1, o1⟩) Bl.sum) (Or.inl ⟨by omega, by omega⟩))) rfl
def e7 : Ct ((Bool × List Int) × (Nat × Nat)) := { As := fun g => [Sq g.1.1 I g.1.2, I (g.2.1 : Int), I (g.2.2 : Int)], pre := fun g => g.2.1 ≤ g.2.2, S := fun g => I (pre g.1.2 g.2.2 - pre g.1.2 g.2.1) }
theorem oke7 (Bl : Blt M) (P : Pr M "pieces_in" (stm 17) ["wants", "first", "end"]) : Gd M 1 "pieces_in" ["wants", "first", "end"] e7 := by
  refine P.gd sc_pieces_in (by intro _; rfl) fun X B0 F0 D g hp hR hN => ?_
  obtain ⟨⟨bb, wants⟩, j, k⟩ := g
  dsimp only [mkΓ, e7] at hp hR ⊢
  exact ds_ret0 hR (d_sumB (d_sl (d_name Has.z) (o_some (d_name (Has.s Has.z))) (o_some (d_name (Has.s (Has.s Has.z))))) Bl.sum) (congrArg I (cut_part rfl rfl hp))
def e8 : Ct ((Bool × (List Int × List Int)) × ((Int × Int) × (Nat × Nat))) := { As := fun g => [Sq g.1.1 I g.1.2.1, Sq g.1.1 I g.1.2.2, I g.2.1.1, I g.2.1.2, I (g.2.2.1 : Int), I (g.2.2.2 : Int)], pre := fun g => Oks g.1.2.1 g.1.2.2 g.2.1.2 ∧ g.2.2.1 < g.2.2.2 ∧ g.2.2.2 ≤ g.1.2.1.length, S := fun g => I (spn g.1.2.1 g.1.2.2 g.2.1.1 g.2.1.2 g.2.2.1 g.2.2.2) }
theorem oke8 (Bl : Blt M) (P : Pr M "span_cost" (stm 18) ["wants", "prices", "fixed", "night", "first", "end"]) (E5 : Gd M 1 "order_cost" ["pieces", "price", "fixed"] e5) (E7 : Gd M 1 "pieces_in" ["wants", "first", "end"] e7) : Gd M 2 "span_cost" ["wants", "prices", "fixed", "night", "first", "end"] e8 := by
  refine P.gd sc_span_cost (by intro _; rfl) fun X B0 F0 D g hp hR hN => ?_
  obtain ⟨⟨bb, wants, prices⟩, ⟨fixed, night⟩, j, k⟩ := g
  dsimp only [mkΓ, e8] at hp hR ⊢
  obtain ⟨⟨⟨o1, o2⟩, ⟨o3, o4⟩, o5, o6⟩, h1, h2⟩ := hp
  refine ds_asg (DE.eqI (j := lyi wants j k) (d_sumB (DN.frz (n_lcM (own := [("day", 7)]) (Γw := ([("wants", some (Sq bb I wants)), ("prices", some (Sq bb I prices)), ("fixed", some (I fixed)), ("night", some (I night)), ("first", some (I (j : Int))), ("end", some (I (k : Int))), ("lying", none), ("day", none)] : En)) (R := I) (blkOk_by (by show blkC nm_span_cost (defScope (stm 18)) _ _ = true; decide +kernel)) (by repeat constructor) (i_rng2 (d_name (Has.s (Has.s (Has.s (Has.s Has.z))))) (d_name (Has.s (Has.s (Has.s (Has.s (Has.s Has.z)))))) Bl.range) ((tab (fun i => (i : Int) * w wants (j + i)) (k - j))) ?_ ?_ ?_)) Bl.sum) sum_tab) (Put.s (Put.s (Put.s (Put.s (Put.s (Put.s Put.z)))))) ?_
  · rw [tab_len]; omega
  · show _ < 16777216
    omega
  · rintro i _ z rfl hz
    obtain ⟨hi, rfl⟩ := tab_get' hz
    exact ⟨_, _, (g_name (Put.s (Put.s (Put.s (Put.s (Put.s (Put.s (Put.s Put.z)))))))), by simp, DE.eqI (d_mul (d_sub (d_name (Has.s (Has.s (Has.s (Has.s (Has.s (Has.s (Has.s Has.z)))))))) (d_name (Has.s (Has.s (Has.s (Has.s Has.z)))))) (d_ix (d_name Has.z) (d_name (Has.s (Has.s (Has.s (Has.s (Has.s (Has.s (Has.s Has.z)))))))) (atI_of (j := j + i) (by omega) (at_w (by omega)))) (Or.inl ⟨by omega, by omega⟩)) (by rw [show (j : Int) + (i : Int) - (j : Int) = (i : Int) by omega])⟩
  · have := w_in (k := j) o4
    exact ds_ret0 hR (d_add (d_call0 (t := e5) (((pre wants k - pre wants j, w prices j), fixed)) E5 (Nat.le_of_ble_eq_true rfl) (a_cons (d_call0 (t := e7) (((bb, wants), (j, k))) E7 (Nat.le_of_ble_eq_true rfl) (a_cons (d_name Has.z) (a_cons (d_name (Has.s (Has.s (Has.s (Has.s Has.z))))) (a_cons (d_name (Has.s (Has.s (Has.s (Has.s (Has.s Has.z)))))) a_nil))) rfl (Nat.le_of_lt h1)) (a_cons (d_ix (d_name (Has.s Has.z)) (d_name (Has.s (Has.s (Has.s (Has.s Has.z))))) (atI_of (j := j) rfl (at_w (by omega)))) (a_cons (d_name (Has.s (Has.s Has.z))) a_nil))) rfl ⟨this.1, by show w prices j ≤ 1000; omega⟩) (d_mul (d_name (Has.s (Has.s (Has.s Has.z)))) (d_name (Has.s (Has.s (Has.s (Has.s (Has.s (Has.s Has.z))))))) (Or.inl ⟨by omega, by omega⟩))) rfl
end
end K27

set_option maxHeartbeats 2000000
/-! K27f: least costs, order days; the law's pool and draws. -/
namespace K27
open PySem PySem.Spec PyProof.Rows L2 ZZ
open Evl (Ex)
local macro_rules | `(tactic| walk_at "has") => `(tactic| (with_reducible first | exact Has.z | exact Has.s Has.z | exact Has.s (Has.s Has.z) | exact Has.s (Has.s (Has.s Has.z)) | exact Has.s (Has.s (Has.s (Has.s Has.z))) | exact Has.s (Has.s (Has.s (Has.s (Has.s Has.z)))) | exact Has.s (Has.s (Has.s (Has.s (Has.s (Has.s Has.z))))) | exact Has.s (Has.s (Has.s (Has.s (Has.s (Has.s (Has.s Has.z))))))))
local macro_rules | `(tactic| walk_at "put") => `(tactic| (with_reducible first | exact Put.z | exact Put.s Put.z | exact Put.s (Put.s Put.z) | exact Put.s (Put.s (Put.s Put.z)) | exact Put.s (Put.s (Put.s (Put.s Put.z))) | exact Put.s (Put.s (Put.s (Put.s (Put.s Put.z)))) | exact Put.s (Put.s (Put.s (Put.s (Put.s (Put.s Put.z))))) | exact Put.s (Put.s (Put.s (Put.s (Put.s (Put.s (Put.s Put.z))))))))
local macro_rules | `(tactic| walk_at "swp") => `(tactic| (with_reducible first | exact Swp.z | exact Swp.s Swp.z | exact Swp.s (Swp.s Swp.z) | exact Swp.s (Swp.s (Swp.s Swp.z)) | exact Swp.s (Swp.s (Swp.s (Swp.s Swp.z))) | exact Swp.s (Swp.s (Swp.s (Swp.s (Swp.s Swp.z)))) | exact Swp.s (Swp.s (Swp.s (Swp.s (Swp.s (Swp.s Swp.z))))) | exact Swp.s (Swp.s (Swp.s (Swp.s (Swp.s (Swp.s (Swp.s Swp.z))))))))
local macro_rules | `(tactic| walk_at "tak") => `(tactic| (with_reducible first | exact Tak.z | exact Tak.s Tak.z | exact Tak.s (Tak.s Tak.z) | exact Tak.s (Tak.s (Tak.s Tak.z)) | exact Tak.s (Tak.s (Tak.s (Tak.s Tak.z))) | exact Tak.s (Tak.s (Tak.s (Tak.s (Tak.s Tak.z)))) | exact Tak.s (Tak.s (Tak.s (Tak.s (Tak.s (Tak.s Tak.z))))) | exact Tak.s (Tak.s (Tak.s (Tak.s (Tak.s (Tak.s (Tak.s Tak.z))))))))
local macro_rules | `(tactic| walk_at "hold") => `(tactic| (with_reducible first | exact Hold.z | exact Hold.s Hold.z | exact Hold.s (Hold.s Hold.z) | exact Hold.s (Hold.s (Hold.s Hold.z)) | exact Hold.s (Hold.s (Hold.s (Hold.s Hold.z))) | exact Hold.s (Hold.s (Hold.s (Hold.s (Hold.s Hold.z)))) | exact Hold.s (Hold.s (Hold.s (Hold.s (Hold.s (Hold.s Hold.z))))) | exact Hold.s (Hold.s (Hold.s (Hold.s (Hold.s (Hold.s (Hold.s Hold.z))))))))
local macro_rules | `(tactic| walk_at "upe") => `(tactic| (with_reducible first | exact UpE.z | exact UpE.s UpE.z | exact UpE.s (UpE.s UpE.z) | exact UpE.s (UpE.s (UpE.s UpE.z)) | exact UpE.s (UpE.s (UpE.s (UpE.s UpE.z))) | exact UpE.s (UpE.s (UpE.s (UpE.s (UpE.s UpE.z)))) | exact UpE.s (UpE.s (UpE.s (UpE.s (UpE.s (UpE.s UpE.z))))) | exact UpE.s (UpE.s (UpE.s (UpE.s (UpE.s (UpE.s (UpE.s UpE.z))))))))
local macro_rules | `(tactic| walk_at "fg") => `(tactic| (repeat (first | exact Fg.nil | (with_reducible refine Fg.keep rfl ?_) | (with_reducible refine Fg.drop ?_))))
local macro_rules | `(tactic| walk_at "nonb") => `(tactic| first | exact nonb_I | exact nonb_No | exact nonb_Bo | exact nonb_S | exact nonb_seq | exact nonb_tup)
local macro_rules | `(tactic| walk_at "istb") => `(tactic| first | exact istb_sc | exact istb_seq | exact istb_tup)

section
variable {M : Mo}
def e9 : Ct ((Bool × (List Int × List Int)) × (Int × Int)) := { As := fun g => [Sq g.1.1 I g.1.2.1, Sq g.1.1 I g.1.2.2, I g.2.1, I g.2.2], pre := fun g => Oks g.1.2.1 g.1.2.2 g.2.2, S := fun g => Sq false I (tab (C g.1.2.1 g.1.2.2 g.2.1 g.2.2) (g.1.2.1.length + 1)) }
theorem oke9 (Bl : Blt M) (P : Pr M "least_costs" (stm 19) ["wants", "prices", "fixed", "night"]) (E8 : Gd M 2 "span_cost" ["wants", "prices", "fixed", "night", "first", "end"] e8) : Gd M 3 "least_costs" ["wants", "prices", "fixed", "night"] e9 := by
  refine P.gd sc_least_costs (by intro _; rfl) fun X B0 F0 D g hp hR hN => ?_
  obtain ⟨⟨bb, wants, prices⟩, fixed, night⟩ := g
  dsimp only [mkΓ, e9] at hp hR ⊢
  have o1 := hp.1.1
  refine ds_own0 (n_lstQ (I) ((tab (C wants prices fixed night) 1)) (a_cons d_int a_nil)) (Put.s (Put.s (Put.s (Put.s Put.z)))) fun l_costs => ⟨_, (Put.s (Put.s (Put.s (Put.s Put.z)))), ?_⟩
  refine ds_forF (fun i => ([("wants", some (Sq bb I wants)), ("prices", some (Sq bb I prices)), ("fixed", some (I fixed)), ("night", some (I night)), ("costs", some (At l_costs)), ("end", none), ("ways", none), ("first", none)] : En)) (fun i => [(l_costs, Cl I (tab (C wants prices fixed night) (i + 1)))]) (i_rng2 d_int (d_add (d_len (d_name Has.z) Bl.len) d_int) Bl.range) (by walk_at "fg") rfl ?_ ?_
  · rintro B1 hB1 i _ hi rfl
    have hi : i < wants.length := by omega
    refine ⟨_, _, (g_name (Put.s (Put.s (Put.s (Put.s (Put.s Put.z)))))), ?_⟩
    refine ds_lcM (own := [("first", 7)]) (Γw := ([("wants", some (Sq bb I wants)), ("prices", some (Sq bb I prices)), ("fixed", some (I fixed)), ("night", some (I night)), ("costs", some (At l_costs)), ("end", some (I (1 + (i : Int)))), ("ways", none), ("first", none)] : En)) (R := I) (tab (fun j => C wants prices fixed night j + spn wants prices fixed night j (i + 1)) (i + 1)) (blkOk_by (by show blkC nm_least_costs (defScope (stm 19)) _ _ = true; decide +kernel)) (by repeat constructor) (i_rng1 (d_name (Has.s (Has.s (Has.s (Has.s (Has.s Has.z)))))) Bl.range) (by rw [tab_len]; omega) (by show _ < 16777216; omega) ?_ (Put.s (Put.s (Put.s (Put.s (Put.s (Put.s Put.z)))))) (fun l => ⟨_, (Put.s (Put.s (Put.s (Put.s (Put.s (Put.s Put.z)))))), ?_⟩)
    · rintro j _ z rfl hz
      obtain ⟨hj, rfl⟩ := tab_get' hz
      exact ⟨_, _, (g_name (Put.s (Put.s (Put.s (Put.s (Put.s (Put.s (Put.s Put.z)))))))), by simp, (d_add (d_ixTO (d_name (Has.s (Has.s (Has.s (Has.s Has.z))))) (d_name (Has.s (Has.s (Has.s (Has.s (Has.s (Has.s (Has.s Has.z)))))))) (by walk_at "hold") j rfl hj) (d_call0 (t := e8) (((bb, (wants, prices)), ((fixed, night), (j, i + 1)))) E8 (Nat.le_of_ble_eq_true rfl) (a_cons (d_name Has.z) (a_cons (d_name (Has.s Has.z)) (a_cons (d_name (Has.s (Has.s Has.z))) (a_cons (d_name (Has.s (Has.s (Has.s Has.z)))) (a_cons (d_name (Has.s (Has.s (Has.s (Has.s (Has.s (Has.s (Has.s Has.z)))))))) (a_cons (d_name (Has.s (Has.s (Has.s (Has.s (Has.s Has.z)))))) a_nil)))))) (by rw [show (1 : Int) + (i : Int) = ((i + 1 : Nat) : Int) by omega]; rfl) ⟨hp, hj, hi⟩))⟩
    · refine ds_freeze (Upg.s (Upg.s (Upg.s (Upg.s (Upg.s (Upg.s Upg.z)))))) tak_last ?_
      have ne : tab (fun j => C wants prices fixed night j + spn wants prices fixed night j (i + 1)) (i + 1) ≠ [] := tab_ne (by omega)
      refine ds_app (d_name (Has.s (Has.s (Has.s (Has.s Has.z))))) (d_minL (d_name (Has.s (Has.s (Has.s (Has.s (Has.s (Has.s Has.z))))))) (mnl_mem ne) (fun y hy => mnl_le hy) Bl.min) (by walk_at "hold") (by walk_at "swp") (by rw [tab_len]; show _ < 16777216; omega) ?_
      exact ds_turnF (by walk_at "fg") (by rw [tab_succ (n := i + 1), C_succ]) rfl rfl
  · rw [show ((wants.length : Int) + 1 - 1).toNat = wants.length by omega]
    refine ds_freeze (Upg.s (Upg.s (Upg.s (Upg.s Upg.z)))) (by walk_at "tak") ?_
    exact ds_ret0 hR (d_tuple (d_name (Has.s (Has.s (Has.s (Has.s Has.z))))) Bl.tuple) rfl
def e10 : Ct ((Bool × (List Int × List Int)) × (Int × Int)) := { As := fun g => [Sq g.1.1 I g.1.2.1, Sq g.1.1 I g.1.2.2, I g.2.1, I g.2.2], pre := fun g => Oks g.1.2.1 g.1.2.2 g.2.2, S := fun g => I (C g.1.2.1 g.1.2.2 g.2.1 g.2.2 g.1.2.1.length) }
theorem oke10 (P : Pr M "least_cost" (stm 20) ["wants", "prices", "fixed", "night"]) (E9 : Gd M 3 "least_costs" ["wants", "prices", "fixed", "night"] e9) : Gd M 4 "least_cost" ["wants", "prices", "fixed", "night"] e10 := by
  refine P.gd sc_least_cost (by intro _; rfl) fun X B0 F0 D g hp hR hN => ?_
  obtain ⟨⟨bb, wants, prices⟩, fixed, night⟩ := g
  dsimp only [mkΓ, e10] at hp hR ⊢
  exact ds_ret0 hR (d_ix (d_call0 (t := e9) (((bb, (wants, prices)), (fixed, night))) E9 (Nat.le_of_ble_eq_true rfl) (a_cons (d_name Has.z) (a_cons (d_name (Has.s Has.z)) (a_cons (d_name (Has.s (Has.s Has.z))) (a_cons (d_name (Has.s (Has.s (Has.s Has.z)))) a_nil)))) rfl hp) (d_neg d_int) tab_last) rfl
def e11 : Ct (List Int) := { As := fun sc => [Sq false I sc], pre := fun sc => sc.length ≤ 100, S := fun sc => Sq false I (dys sc) }
theorem oke11 (Bl : Blt M) (P : Pr M "order_days" (stm 21) ["scheme"]) : Gd M 1 "order_days" ["scheme"] e11 := by
  refine P.gd sc_order_days (by intro _; rfl) fun X B0 F0 D sc hp hR hN => ?_
  dsimp only [mkΓ, e11] at hp hR ⊢
  refine ds_ret0 hR (d_tuple (DN.frz (n_lcF (own := [("day", 1), ("pieces", 2)]) (Γw := ([("scheme", some (Sq false I sc)), ("day", none), ("pieces", none)] : En)) (R := I) (ys := (tab (fun i => ((i : Int), w sc i)) sc.length)) ((fun y : Int × Int => y.1)) ((fun y : Int × Int => decide (0 < y.2))) (blkOk_by (by show blkC nm_order_days (defScope (stm 21)) _ _ = true; decide +kernel)) (by repeat constructor) (i_enum (d_name Has.z) Bl.enumerate) ?_ ?_ ?_ ?_)) Bl.tuple) (by rw [dys_enum])
  · rw [tab_len]
  · rintro i ⟨y1, y2⟩ hi ⟨h1, h2⟩
    dsimp only at h1 h2
    obtain rfl := w_at h2
    subst h1
    exact tab_get hi
  · show _ < 16777216
    omega
  · rintro i ⟨y1, y2⟩ hi ⟨h1, h2⟩
    exact ⟨_, _, (g_two (g_name (Put.s Put.z)) (g_name (Put.s (Put.s Put.z)))), by simp, (t_gt (d_name (Has.s (Has.s Has.z))) d_int), fun _ => (d_name (Has.s Has.z))⟩
/-! ### the pool -/
theorem ds_drop {c : Cc} {X : Cx} {B0 F : Hp} {D : Ends} {Γ : En} {ω ω1 : Ws} {sts : List Stmt} {l : Addr} {C : Co} (ht : Tak ω l C ω1) (k : DS c X B0 F D Γ ω1 sts) : DS c X B0 F D Γ ω sts := fun fx σ B H hB hE hO => by
  obtain ⟨o, _, _, O2, e2⟩ := hO.freeze ht
  exact k fx σ _ H (hB.trans e2) (hE.mono e2) O2
theorem okpd (Bl : Blt M) (P : Pr M "_law_draw" (stm 35) ["pool", "many"]) : Gd M 1 "_law_draw" ["pool", "many"] pd := by
  refine P.gd sc__law_draw (by intro _; rfl) fun X B0 F0 D g hp hR hN => ?_
  obtain ⟨p, m⟩ := g
  dsimp only [mkΓ, pd] at hp hR ⊢
  refine ds_open (l := p) (P := fun _ : List Int => True) (C := Cl I) (ω' := fun ns => [(p, Cl I ns)]) (fun ns => .z) (fun ns _ => ?_) ⟨[]⟩
  refine ds_if (t_eqI (d_lenO (d_name Has.z) (by walk_at "hold") Bl.len) d_int) ?_ ?_
  · intro h
    exact ds_retE hR d_int ⟨by omega, hp⟩ (fun B H O => O.close .z fun B o z => ⟨_, trivial, z⟩)
  · intro h
    have h : ¬ (ns.length : Int) = 0 := of_decide_eq_false h.symm
    obtain ⟨ns', y, rfl⟩ : ∃ ns' y, ns = ns' ++ [y] := ⟨ns.dropLast, ns.getLast (fun z => h (by rw [z]; rfl)), (List.dropLast_concat_getLast _).symm⟩
    refine ds_next ?_
    exact ds_retE hR (d_mod (d_intI (d_pop (d_name Has.z) (by walk_at "swp")) Bl.int) (d_name (Has.s Has.z)) hp) ⟨Int.emod_nonneg _ (by omega), Int.emod_lt_of_pos _ hp⟩ (fun B H O => O.close .z fun B o z => ⟨_, trivial, z⟩)
theorem okpool (Bl : Blt M) (P : Pr M "_law_pool" (stm 34) ["script", "many"]) : Gq M 1 "_law_pool" 63 ["script", "many"] := by
  refine P.gq sc__law_pool fun X B0 F0 D ns m hn hR => ?_
  dsimp only [mkΓ]
  have e1 : cut ns none (some 63) = ns.take 63 := cut_take (k := 63)
  refine ds_lcM (own := [("cell", 7)]) (Γw := ([("script", some (Sk M.K ns)), ("many", some (I m)), ("left", none), ("pool", none), ("jar", none), ("k", none), ("at", none), ("cell", none)] : En)) (R := I) (ns.take 63) (blkOk_by (by show blkC nm__law_pool (defScope (stm 34)) _ _ = true; decide +kernel)) (by repeat constructor) (i_seq (d_slK (d_name Has.z) o_none (o_some d_int))) (by rw [e1]) (by show _ < 16777216; rw [e1, List.length_take]; omega) ?_ (Put.s (Put.s Put.z)) (fun l => ⟨_, (Put.s (Put.s Put.z)), ?_⟩)
  · intro i y z hy hz
    rw [e1] at hy
    rw [hy] at hz
    obtain rfl := Option.some.inj hz
    exact ⟨_, _, (g_name (Put.s (Put.s (Put.s (Put.s (Put.s (Put.s (Put.s Put.z)))))))), by simp, (d_intI (d_name (Has.s (Has.s (Has.s (Has.s (Has.s (Has.s (Has.s Has.z)))))))) Bl.int)⟩
  · dsimp only [List.nil_append]
    refine ds_ifR (fun Γ ω => ∃ l ls, 0 < ls.length ∧ Γ = ([("script", some (Sk M.K ns)), ("many", some (I m)), ("left", some (At l)), ("pool", none), ("jar", none), ("k", none), ("at", none), ("cell", none)] : En) ∧ ω = [(l, Cl I ls)]) (t_eqI (d_lenO (d_name (Has.s (Has.s Has.z))) (by walk_at "hold") Bl.len) d_int) ?_ ?_ ?_
    · intro _
      refine ds_own (ω1 := [(l, Cl I (ns.take 63))]) (n_lstQ I [0] (a_cons d_int a_nil)) (Put.s (Put.s Put.z)) fun l2 => ⟨_, (Put.s (Put.s Put.z)), ?_⟩
      refine ds_drop (l := l) .z ?_
      exact ds_turnJ (Γ1 := ([("script", some (Sk M.K ns)), ("many", some (I m)), ("left", some (At l2)), ("pool", none), ("jar", none), ("k", none), ("at", none), ("cell", none)] : En)) (by walk_at "fg") ⟨l2, [0], by decide, rfl, rfl⟩ rfl rfl
    · intro h
      have h : ¬ ((ns.take 63).length : Int) = 0 := of_decide_eq_false h.symm
      exact ds_turnJ (Γ1 := ([("script", some (Sk M.K ns)), ("many", some (I m)), ("left", some (At l)), ("pool", none), ("jar", none), ("k", none), ("at", none), ("cell", none)] : En)) (by walk_at "fg") ⟨l, ns.take 63, by omega, rfl, rfl⟩ rfl rfl
    · rintro _ _ ⟨l, ls, hls, rfl, rfl⟩ _
      refine ds_own1 (n_lstQ (I) ([]) a_nil) (Put.s (Put.s (Put.s Put.z))) fun l_pool => ⟨_, (Put.s (Put.s (Put.s Put.z))), ?_⟩
      refine ds_asg d_int (Put.s (Put.s (Put.s (Put.s Put.z)))) ?_
      refine ds_for (fun i Γ ω => ∃ ls xs j, 0 < ls.length ∧ xs.length = i ∧ 0 ≤ j ∧ j < 1000003 ∧ Γ = ([("script", some (Sk M.K ns)), ("many", some (I m)), ("left", some (At l)), ("pool", some (At l_pool)), ("jar", some (I j)), ("k", none), ("at", none), ("cell", none)] : En) ∧ ω = [(l, Cl I ls), (l_pool, Cl I xs)]) (i_rng1 (d_name (Has.s Has.z)) Bl.range) (Γ0 := ([("script", some (Sk M.K ns)), ("many", some (I m)), ("left", some (At l)), ("pool", some (At l_pool)), ("jar", some (I 7)), ("k", none), ("at", none), ("cell", none)] : En)) (by walk_at "fg") ⟨ls, [], 7, hls, rfl, by decide, by decide, rfl, rfl⟩ ?_ ?_
      · rintro B1 hB1 i _ _ _ hi rfl ⟨ls, xs, j, hls, hxs, hj1, hj2, rfl, rfl⟩ _
        have hi : i < 1000 := by omega
        have hpos : (0 : Int) < ls.length := by omega
        refine ⟨_, _, (g_name (Put.s (Put.s (Put.s (Put.s (Put.s Put.z)))))), ?_⟩
        refine ds_asg (d_mod (d_name (Has.s (Has.s (Has.s (Has.s (Has.s Has.z)))))) (d_lenO (d_name (Has.s (Has.s Has.z))) (by walk_at "hold") Bl.len) hpos) (Put.s (Put.s (Put.s (Put.s (Put.s (Put.s Put.z)))))) ?_
        have m1 := Int.emod_nonneg (i : Int) (b := (ls.length : Int)) (by omega)
        have m2 := Int.emod_lt_of_pos (i : Int) hpos
        obtain ⟨a, ha⟩ := Int.eq_ofNat_of_zero_le m1
        have ha2 : a < ls.length := by omega
        obtain ⟨y, hy⟩ : ∃ y, ls[a]? = some y := ⟨_, List.getElem?_eq_getElem ha2⟩
        refine ds_asg (d_ixO (d_name (Has.s (Has.s Has.z))) (d_name (Has.s (Has.s (Has.s (Has.s (Has.s (Has.s Has.z))))))) (by walk_at "hold") (atI_of (j := a) ha hy)) (Put.s (Put.s (Put.s (Put.s (Put.s (Put.s (Put.s Put.z))))))) ?_
        refine ds_if (t_ge (d_name (Has.s (Has.s (Has.s (Has.s (Has.s (Has.s (Has.s Has.z)))))))) (d_pow d_int d_int ⟨by decide, by decide, by decide⟩)) ?_ ?_
        · intro _
          refine ds_app (d_name (Has.s (Has.s (Has.s Has.z)))) (d_mod (d_intI (d_name (Has.s (Has.s (Has.s (Has.s (Has.s (Has.s (Has.s Has.z)))))))) Bl.int) d_int (by decide)) (by walk_at "hold") (by walk_at "swp") (by rw [hxs]; show _ < 16777216; omega) ?_
          refine ds_seti (d_div (d_name (Has.s (Has.s (Has.s (Has.s (Has.s (Has.s (Has.s Has.z)))))))) d_int ⟨by decide, by decide⟩) (d_name (Has.s (Has.s Has.z))) (d_name (Has.s (Has.s (Has.s (Has.s (Has.s (Has.s Has.z))))))) (j := a) (ixN_of ha ha2) (by walk_at "swp") ?_
          refine ds_next ?_
          exact ds_turnJ (Γ1 := ([("script", some (Sk M.K ns)), ("many", some (I m)), ("left", some (At l)), ("pool", some (At l_pool)), ("jar", some (I j)), ("k", none), ("at", none), ("cell", none)] : En)) (by walk_at "fg") ⟨_, _, j, by rw [List.length_set]; exact hls, by rw [List.length_append, hxs]; rfl, hj1, hj2, rfl, rfl⟩ rfl rfl
        · intro _
          refine ds_asg (d_mod (d_add (d_add (d_add (d_mul (d_name (Has.s (Has.s (Has.s (Has.s Has.z))))) (d_name (Has.s (Has.s (Has.s (Has.s Has.z))))) (Or.inl ⟨by omega, by omega⟩)) (d_mul (d_mod (d_intI (d_name (Has.s (Has.s (Has.s (Has.s (Has.s (Has.s (Has.s Has.z)))))))) Bl.int) d_int (by decide)) d_int (Or.inr ⟨by decide, by decide⟩))) (d_mul (d_name (Has.s (Has.s (Has.s (Has.s (Has.s Has.z)))))) d_int (Or.inr ⟨by decide, by decide⟩))) d_int) d_int (by decide)) (Put.s (Put.s (Put.s (Put.s Put.z)))) ?_
          refine ds_app (d_name (Has.s (Has.s (Has.s Has.z)))) (d_mod (d_add (d_mul (d_name (Has.s (Has.s (Has.s (Has.s Has.z))))) d_int (Or.inr ⟨by decide, by decide⟩)) (d_div (d_name (Has.s (Has.s (Has.s (Has.s Has.z))))) d_int ⟨by decide, by decide⟩)) d_int (by decide)) (by walk_at "hold") (by walk_at "swp") (by rw [hxs]; show _ < 16777216; omega) ?_
          refine ds_next ?_
          exact ds_turnJ (Γ1 := ([("script", some (Sk M.K ns)), ("many", some (I m)), ("left", some (At l)), ("pool", some (At l_pool)), ("jar", some (I ((j * j + y % 1000003 * 40014 + (i : Int) * 7919 + 11) % 1000003))), ("k", none), ("at", none), ("cell", none)] : En)) (by walk_at "fg") ⟨ls, _, _, hls, by rw [List.length_append, hxs]; rfl, Int.emod_nonneg _ (by decide), Int.emod_lt_of_pos _ (by decide), rfl, rfl⟩ rfl rfl
      · rintro _ _ ⟨ls, xs, j, _, _, _, _, rfl, rfl⟩ _
        refine ds_rev (d_name (Has.s (Has.s (Has.s Has.z)))) (by walk_at "swp") ?_
        refine ds_drop (l := l) .z ?_
        exact ds_retQ hR (d_name (Has.s (Has.s (Has.s Has.z))))
end
end K27

set_option maxHeartbeats 2000000
/-! K27g: told and due, the law's fractions, numbers, misses. -/
namespace K27
open PySem PySem.Spec PyProof.Rows L2 ZZ
open Evl (Ex)
local macro_rules | `(tactic| walk_at "has") => `(tactic| (with_reducible first | exact Has.z | exact Has.s Has.z | exact Has.s (Has.s Has.z) | exact Has.s (Has.s (Has.s Has.z)) | exact Has.s (Has.s (Has.s (Has.s Has.z))) | exact Has.s (Has.s (Has.s (Has.s (Has.s Has.z)))) | exact Has.s (Has.s (Has.s (Has.s (Has.s (Has.s Has.z))))) | exact Has.s (Has.s (Has.s (Has.s (Has.s (Has.s (Has.s Has.z))))))))
local macro_rules | `(tactic| walk_at "put") => `(tactic| (with_reducible first | exact Put.z | exact Put.s Put.z | exact Put.s (Put.s Put.z) | exact Put.s (Put.s (Put.s Put.z)) | exact Put.s (Put.s (Put.s (Put.s Put.z))) | exact Put.s (Put.s (Put.s (Put.s (Put.s Put.z)))) | exact Put.s (Put.s (Put.s (Put.s (Put.s (Put.s Put.z))))) | exact Put.s (Put.s (Put.s (Put.s (Put.s (Put.s (Put.s Put.z))))))))
local macro_rules | `(tactic| walk_at "swp") => `(tactic| (with_reducible first | exact Swp.z | exact Swp.s Swp.z | exact Swp.s (Swp.s Swp.z) | exact Swp.s (Swp.s (Swp.s Swp.z)) | exact Swp.s (Swp.s (Swp.s (Swp.s Swp.z))) | exact Swp.s (Swp.s (Swp.s (Swp.s (Swp.s Swp.z)))) | exact Swp.s (Swp.s (Swp.s (Swp.s (Swp.s (Swp.s Swp.z))))) | exact Swp.s (Swp.s (Swp.s (Swp.s (Swp.s (Swp.s (Swp.s Swp.z))))))))
local macro_rules | `(tactic| walk_at "tak") => `(tactic| (with_reducible first | exact Tak.z | exact Tak.s Tak.z | exact Tak.s (Tak.s Tak.z) | exact Tak.s (Tak.s (Tak.s Tak.z)) | exact Tak.s (Tak.s (Tak.s (Tak.s Tak.z))) | exact Tak.s (Tak.s (Tak.s (Tak.s (Tak.s Tak.z)))) | exact Tak.s (Tak.s (Tak.s (Tak.s (Tak.s (Tak.s Tak.z))))) | exact Tak.s (Tak.s (Tak.s (Tak.s (Tak.s (Tak.s (Tak.s Tak.z))))))))
local macro_rules | `(tactic| walk_at "hold") => `(tactic| (with_reducible first | exact Hold.z | exact Hold.s Hold.z | exact Hold.s (Hold.s Hold.z) | exact Hold.s (Hold.s (Hold.s Hold.z)) | exact Hold.s (Hold.s (Hold.s (Hold.s Hold.z))) | exact Hold.s (Hold.s (Hold.s (Hold.s (Hold.s Hold.z)))) | exact Hold.s (Hold.s (Hold.s (Hold.s (Hold.s (Hold.s Hold.z))))) | exact Hold.s (Hold.s (Hold.s (Hold.s (Hold.s (Hold.s (Hold.s Hold.z))))))))
local macro_rules | `(tactic| walk_at "upe") => `(tactic| (with_reducible first | exact UpE.z | exact UpE.s UpE.z | exact UpE.s (UpE.s UpE.z) | exact UpE.s (UpE.s (UpE.s UpE.z)) | exact UpE.s (UpE.s (UpE.s (UpE.s UpE.z))) | exact UpE.s (UpE.s (UpE.s (UpE.s (UpE.s UpE.z)))) | exact UpE.s (UpE.s (UpE.s (UpE.s (UpE.s (UpE.s UpE.z))))) | exact UpE.s (UpE.s (UpE.s (UpE.s (UpE.s (UpE.s (UpE.s UpE.z))))))))
local macro_rules | `(tactic| walk_at "fg") => `(tactic| (repeat (first | exact Fg.nil | (with_reducible refine Fg.keep rfl ?_) | (with_reducible refine Fg.drop ?_))))
local macro_rules | `(tactic| walk_at "nonb") => `(tactic| first | exact nonb_I | exact nonb_No | exact nonb_Bo | exact nonb_S | exact nonb_seq | exact nonb_tup)
local macro_rules | `(tactic| walk_at "istb") => `(tactic| first | exact istb_sc | exact istb_seq | exact istb_tup)

section
variable {M : Mo}
inductive Sca | non | bl (b : Bool) | int (i : Int)
def Sca.sh : Sca → Sh
  | .non => No
  | .bl b => Bo b
  | .int i => I i
def s0 : Ct Sca := { As := fun x => [x.sh, x.sh], S := fun _ => Bo true }
theorem oks0 (Bl : Blt M) (P : Pr M "_law_same" (stm 36) ["told", "due"]) : Gd M 1 "_law_same" ["told", "due"] s0 := by
  refine P.gd sc__law_same (by intro _; rfl) fun X B0 F0 D g hp hR hN => ?_
  dsimp only [mkΓ, s0] at hp hR ⊢
  cases g with
  | non =>
    refine ds_ifT (t_isN (d_name (Has.s Has.z)) nonb_No) rfl ?_
    exact ds_ret0 hR (d_isN (d_name Has.z) nonb_No)
  | bl b =>
    refine ds_ifF (t_isN (d_name (Has.s Has.z)) nonb_Bo) rfl (ds_next ?_)
    cases b with
    | true =>
      refine ds_ifT (t_isT (d_name (Has.s Has.z)) istb_sc) rfl ?_
      exact ds_ret0 hR (d_isT (d_name Has.z) istb_sc)
    | false =>
      refine ds_ifF (t_isT (d_name (Has.s Has.z)) istb_sc) rfl (ds_next ?_)
      refine ds_ifT (t_isT (d_name (Has.s Has.z)) istb_sc) rfl ?_
      exact ds_ret0 hR (d_isT (d_name Has.z) istb_sc)
  | int i =>
    refine ds_ifF (t_isN (d_name (Has.s Has.z)) nonb_I) rfl (ds_next ?_)
    refine ds_ifF (t_isT (d_name (Has.s Has.z)) istb_sc) rfl (ds_next ?_)
    refine ds_ifF (t_isT (d_name (Has.s Has.z)) istb_sc) rfl (ds_next ?_)
    refine ds_ifF (t_val (d_isi (m := "tuple") (d_name (Has.s Has.z)) (fun K => ty_int) (by rfl) Bl.isinstance Bl.tuple (by decide +kernel))) rfl (ds_next ?_)
    refine ds_ifT (t_val (d_isi (m := "int") (d_name (Has.s Has.z)) (fun K => ty_int) (by rfl) Bl.isinstance Bl.int (by decide +kernel))) rfl ?_
    exact ds_ret0 hR (d_and (d_isi (m := "int") (d_name Has.z) (fun K => ty_int) (by rfl) Bl.isinstance Bl.int (by decide +kernel)) (fun _ => (d_and (d_not (d_isi (m := "bool") (d_name Has.z) (fun K => ty_int) (by rfl) Bl.isinstance Bl.bool (by decide +kernel))) (fun _ => (d_one (d_eqI (d_name Has.z) (d_name (Has.s Has.z)))))))) (by simp; exact congrArg Bo (by decide +kernel))
def sT1 {τ : Type} (t : Ct τ) (Rs : τ → Sh) : Ct (List τ) := { As := fun xs => [Sq false Rs xs, Sq false Rs xs], pre := fun xs => xs.length ≤ 100000 ∧ ∀ x ∈ xs, t.pre x, S := fun _ => Bo true }
theorem oksT (Bl : Blt M) (P : Pr M "_law_same" (stm 36) ["told", "due"]) {τ : Type} {t : Ct τ} {Rs : τ → Sh} {d : Nat} (G : Gd M d "_law_same" ["told", "due"] t) (h1 : ∀ x, t.As x = [Rs x, Rs x]) (h2 : ∀ x, t.S x = Bo true) (h3 : ∀ x, t.ω x = []) (h4 : ∀ x, t.ω' x = []) : Gd M (d + 1) "_law_same" ["told", "due"] (sT1 t Rs) := by
  refine P.gd sc__law_same (by intro _; rfl) fun X B0 F0 D xs hp hR hN => ?_
  dsimp only [mkΓ, sT1] at hp hR ⊢
  refine ds_ifF (t_isN (d_name (Has.s Has.z)) nonb_seq) rfl (ds_next ?_)
  refine ds_ifF (t_isT (d_name (Has.s Has.z)) istb_seq) rfl (ds_next ?_)
  refine ds_ifF (t_isT (d_name (Has.s Has.z)) istb_seq) rfl (ds_next ?_)
  refine ds_ifT (t_val (d_isi (m := "tuple") (d_name (Has.s Has.z)) (fun K => ty_tup) (by rfl) Bl.isinstance Bl.tuple (by decide +kernel))) rfl ?_
  refine ds_ifF (t_w (v_or (k := false) (l := false) (DT.eqB (t_notD (t_val (d_isi (m := "tuple") (d_name Has.z) (fun K => ty_tup) (by rfl) Bl.isinstance Bl.tuple (by decide +kernel)))) rfl) (fun _ => v_or1 (DT.eqB (t_neI (d_len (d_name Has.z) Bl.len) (d_len (d_name (Has.s Has.z)) Bl.len)) (by simp))))) rfl (ds_next ?_)
  refine ds_forF (fun i => ([("told", some (Sq false Rs xs)), ("due", some (Sq false Rs xs)), ("k", none)] : En)) (fun i => []) (i_rng1 (d_len (d_name (Has.s Has.z)) Bl.len) Bl.range) (by walk_at "fg") rfl ?_ ?_
  · rintro B1 hB1 i _ hi rfl
    have hR := hR.mono hB1
    have hi : i < xs.length := by omega
    obtain ⟨y, hy⟩ : ∃ y, xs[i]? = some y := ⟨_, List.getElem?_eq_getElem hi⟩
    refine ⟨_, _, (g_name (Put.s (Put.s Put.z))), ?_⟩
    refine ds_ifF (t_notD (t_val ((d_call0 (t := t) y G (Nat.le_refl _) (a_cons (d_ix (d_name Has.z) (d_name (Has.s (Has.s Has.z))) (atI_of rfl hy)) (a_cons (d_ix (d_name (Has.s Has.z)) (d_name (Has.s (Has.s Has.z))) (atI_of rfl hy)) a_nil)) (h1 y).symm (hp.2 y (List.mem_of_getElem? hy)) (h3 y) (h4 y)).eqS (h2 y)))) rfl (ds_next ?_)
    exact ds_turnF (by walk_at "fg") rfl rfl rfl
  · exact ds_ret0 hR d_bool
def s1 : Ct (List Sca) := sT1 s0 Sca.sh
def s2 : Ct (List (List Sca)) := sT1 s1 (Sq false Sca.sh)
def sB : Ct Bool := { As := fun b => [Bo b, Bo b], S := fun _ => Bo true }
def sI : Ct Int := { As := fun i => [I i, I i], S := fun _ => Bo true }
def sP : Ct (Int × Int) := { As := fun x => [P2 x, P2 x], S := fun _ => Bo true }
/-- tuples of numbers, tuples of pairs -/
def sL : Ct (List Int) := { As := fun xs => [Sq false I xs, Sq false I xs], pre := fun xs => xs.length ≤ 100000, S := fun _ => Bo true }
def sQ : Ct (List (Int × Int)) := { As := fun xs => [Sq false P2 xs, Sq false P2 xs], pre := fun xs => xs.length ≤ 100000, S := fun _ => Bo true }
def pr2 (x : Int × Int) : List Sca := [.int x.1, .int x.2]
theorem sle_P2 {x : Int × Int} : Sle (P2 x) (Sq false Sca.sh (pr2 x)) := sle_tup (R := Sca.sh) (xs := pr2 x)
theorem sle_map {α β : Type} {bb : Bool} {R : α → Sh} {R' : β → Sh} {f : α → β} {xs : List α} (h : ∀ x, Sle (R x) (R' (f x))) : Sle (Sq bb R xs) (Sq bb R' (xs.map f)) := fun B v q => by
  obtain ⟨a, vs, rfl, q1, q2⟩ := q
  refine ⟨a, vs, rfl, q1, ?_⟩
  clear q1
  induction xs generalizing vs with
  | nil => cases q2; exact .nil
  | cons x xs ih => cases q2 with | cons p q => exact .cons (h x _ _ p) (ih _ q)
theorem oksB (G : Gd M 1 "_law_same" ["told", "due"] s0) : Gd M 1 "_law_same" ["told", "due"] sB := G.pull (fun b => .bl b) (fun b _ => .cons Sle.refl (.cons Sle.refl .nil)) (fun _ _ => trivial) (fun _ => rfl) (fun _ => rfl) (fun _ _ => Sle.refl)
theorem oksI (G : Gd M 1 "_law_same" ["told", "due"] s0) : Gd M 1 "_law_same" ["told", "due"] sI := G.pull (fun b => .int b) (fun b _ => .cons Sle.refl (.cons Sle.refl .nil)) (fun _ _ => trivial) (fun _ => rfl) (fun _ => rfl) (fun _ _ => Sle.refl)
theorem oksP (G : Gd M 2 "_law_same" ["told", "due"] s1) : Gd M 2 "_law_same" ["told", "due"] sP := G.pull pr2 (fun b _ => .cons sle_P2 (.cons sle_P2 .nil)) (fun _ _ => ⟨by show 2 ≤ _; omega, fun _ _ => trivial⟩) (fun _ => rfl) (fun _ => rfl) (fun _ _ => Sle.refl)
theorem oksL (G : Gd M 2 "_law_same" ["told", "due"] s1) : Gd M 2 "_law_same" ["told", "due"] sL := G.pull (fun xs => xs.map Sca.int) (fun b _ => .cons (sle_map fun _ => Sle.refl) (.cons (sle_map fun _ => Sle.refl) .nil)) (fun xs h => ⟨by rw [List.length_map]; exact h, fun _ _ => trivial⟩) (fun _ => rfl) (fun _ => rfl) (fun _ _ => Sle.refl)
theorem oksQ (G : Gd M 3 "_law_same" ["told", "due"] s2) : Gd M 3 "_law_same" ["told", "due"] sQ := G.pull (fun xs => xs.map pr2) (fun b _ => .cons (sle_map fun _ => sle_P2) (.cons (sle_map fun _ => sle_P2) .nil)) (fun xs h => ⟨by rw [List.length_map]; exact h, fun x hx => by
  obtain ⟨y, _, rfl⟩ := List.mem_map.mp hx
  exact ⟨by show 2 ≤ _; omega, fun _ _ => trivial⟩⟩) (fun _ => rfl) (fun _ => rfl) (fun _ _ => Sle.refl)
/-! ### the law's fraction -/
theorem rest_le {a b : Int} (hb : 0 < b) (h : b ≤ a) : a % b ≤ a - b := by
  have e := Int.emod_def a b
  have q : 1 ≤ a / b := Int.le_ediv_of_mul_le hb (by omega)
  have := Int.mul_le_mul_of_nonneg_left q (Int.le_of_lt hb)
  omega
def l1 : Ct (Int × Int) := { As := fun f => [I f.1, I f.2], pre := fun f => 0 ≤ f.1 ∧ 0 < f.2 ∧ f.2 ≤ 100, S := fun f => P2 (red f.1 f.2) }
theorem okl1 (Bl : Blt M) (P : Pr M "_law_fraction" (stm 37) ["over", "under"]) : Gd M 1 "_law_fraction" ["over", "under"] l1 := by
  refine P.gd sc__law_fraction (by intro _; rfl) fun X B0 F0 D g hp hR hN => ?_
  obtain ⟨o, u⟩ := g
  dsimp only [mkΓ, l1] at hp hR ⊢
  obtain ⟨ho, hu, hu2⟩ := hp
  refine ds_asg (d_name Has.z) (Put.s (Put.s Put.z)) ?_
  refine ds_asg (d_name (Has.s Has.z)) (Put.s (Put.s (Put.s Put.z))) ?_
  refine ds_for (fun i Γ ω => ∃ a b, gc a b = gc o u ∧ 0 ≤ a ∧ 0 ≤ b ∧ ((i = 0 ∧ a = o ∧ b = u) ∨ (1 ≤ i ∧ 0 < a ∧ b ≤ a ∧ a + b ≤ Bd (i - 1))) ∧ Γ = ([("over", some (I o)), ("under", some (I u)), ("one", some (I a)), ("other", some (I b)), ("turn", none), ("rest", none)] : En) ∧ ω = []) (i_rng1 d_int Bl.range) (Γ0 := ([("over", some (I o)), ("under", some (I u)), ("one", some (I o)), ("other", some (I u)), ("turn", none), ("rest", none)] : En)) (by walk_at "fg") ⟨o, u, rfl, ho, by omega, .inl ⟨rfl, rfl, rfl⟩, rfl, rfl⟩ ?_ ?_
  · rintro B1 hB1 i _ _ _ hi rfl ⟨a, b, hg, ha, hb, hs, rfl, rfl⟩ _
    have hR := hR.mono hB1
    refine ⟨_, _, (g_name (Put.s (Put.s (Put.s (Put.s Put.z))))), ?_⟩
    refine ds_if (t_eqI (d_name (Has.s (Has.s (Has.s Has.z)))) d_int) ?_ ?_
    · intro h
      have h : b = 0 := of_decide_eq_true h.symm
      subst h
      rw [gc_self ha] at hg
      subst hg
      have g1 := gc_pos (o := o) hu
      have g2 := gc_le (o := o) hu
      refine ds_brkF rfl ?_
      exact ds_ret0 hR (d_tup (a_cons (d_div (d_name Has.z) (d_name (Has.s (Has.s Has.z))) ⟨g1, by omega⟩) (a_cons (d_div (d_name (Has.s Has.z)) (d_name (Has.s (Has.s Has.z))) ⟨g1, by omega⟩) a_nil))) rfl
    · intro h
      have h : ¬ b = 0 := of_decide_eq_false h.symm
      have hb0 : 0 < b := by omega
      have r0 := Int.emod_nonneg a (b := b) (by omega)
      have r1 := Int.emod_lt_of_pos a hb0
      refine ds_next ?_
      refine ds_asg (d_mod (d_name (Has.s (Has.s Has.z))) (d_name (Has.s (Has.s (Has.s Has.z)))) hb0) (Put.s (Put.s (Put.s (Put.s (Put.s Put.z))))) ?_
      refine ds_asg (d_name (Has.s (Has.s (Has.s Has.z)))) (Put.s (Put.s Put.z)) ?_
      refine ds_asg (d_name (Has.s (Has.s (Has.s (Has.s (Has.s Has.z)))))) (Put.s (Put.s (Put.s Put.z))) ?_
      refine ds_turnJ (Γ1 := ([("over", some (I o)), ("under", some (I u)), ("one", some (I b)), ("other", some (I (a % b))), ("turn", none), ("rest", none)] : En)) (by walk_at "fg") ⟨b, a % b, by rw [← hg, ← gcd_step ha hb0], hb, r0, .inr ⟨by omega, hb0, by omega, ?_⟩, rfl, rfl⟩ rfl rfl
      rw [Nat.add_sub_cancel]
      rcases hs with ⟨rfl, rfl, rfl⟩ | ⟨q1, q2, q3, q4⟩
      · show b + a % b ≤ 200
        omega
      · have q5 := rest_le hb0 q3
        obtain ⟨k, rfl⟩ : ∃ k, i = k + 1 := ⟨i - 1, by omega⟩
        rw [Nat.add_sub_cancel] at q4
        show b + a % b ≤ 2 * Bd k / 3
        omega
  · rintro _ _ ⟨a, b, hg, ha, hb, hs, rfl, rfl⟩ _
    exfalso
    have e : Bd 79 = 0 := by decide +kernel
    rcases hs with ⟨q, _⟩ | ⟨q1, q2, q3, q4⟩
    · exact absurd q (by decide)
    · have q4 : a + b ≤ Bd 79 := q4
      omega
end
end K27

set_option maxHeartbeats 2000000
/-! K27h: the law on outlooks and levels. -/
namespace K27
open PySem PySem.Spec PyProof.Rows L2 ZZ
open Evl (Ex)
local macro_rules | `(tactic| walk_at "has") => `(tactic| (with_reducible first | exact Has.z | exact Has.s Has.z | exact Has.s (Has.s Has.z) | exact Has.s (Has.s (Has.s Has.z)) | exact Has.s (Has.s (Has.s (Has.s Has.z))) | exact Has.s (Has.s (Has.s (Has.s (Has.s Has.z)))) | exact Has.s (Has.s (Has.s (Has.s (Has.s (Has.s Has.z))))) | exact Has.s (Has.s (Has.s (Has.s (Has.s (Has.s (Has.s Has.z))))))))
local macro_rules | `(tactic| walk_at "put") => `(tactic| (with_reducible first | exact Put.z | exact Put.s Put.z | exact Put.s (Put.s Put.z) | exact Put.s (Put.s (Put.s Put.z)) | exact Put.s (Put.s (Put.s (Put.s Put.z))) | exact Put.s (Put.s (Put.s (Put.s (Put.s Put.z)))) | exact Put.s (Put.s (Put.s (Put.s (Put.s (Put.s Put.z))))) | exact Put.s (Put.s (Put.s (Put.s (Put.s (Put.s (Put.s Put.z))))))))
local macro_rules | `(tactic| walk_at "swp") => `(tactic| (with_reducible first | exact Swp.z | exact Swp.s Swp.z | exact Swp.s (Swp.s Swp.z) | exact Swp.s (Swp.s (Swp.s Swp.z)) | exact Swp.s (Swp.s (Swp.s (Swp.s Swp.z))) | exact Swp.s (Swp.s (Swp.s (Swp.s (Swp.s Swp.z)))) | exact Swp.s (Swp.s (Swp.s (Swp.s (Swp.s (Swp.s Swp.z))))) | exact Swp.s (Swp.s (Swp.s (Swp.s (Swp.s (Swp.s (Swp.s Swp.z))))))))
local macro_rules | `(tactic| walk_at "tak") => `(tactic| (with_reducible first | exact Tak.z | exact Tak.s Tak.z | exact Tak.s (Tak.s Tak.z) | exact Tak.s (Tak.s (Tak.s Tak.z)) | exact Tak.s (Tak.s (Tak.s (Tak.s Tak.z))) | exact Tak.s (Tak.s (Tak.s (Tak.s (Tak.s Tak.z)))) | exact Tak.s (Tak.s (Tak.s (Tak.s (Tak.s (Tak.s Tak.z))))) | exact Tak.s (Tak.s (Tak.s (Tak.s (Tak.s (Tak.s (Tak.s Tak.z))))))))
local macro_rules | `(tactic| walk_at "hold") => `(tactic| (with_reducible first | exact Hold.z | exact Hold.s Hold.z | exact Hold.s (Hold.s Hold.z) | exact Hold.s (Hold.s (Hold.s Hold.z)) | exact Hold.s (Hold.s (Hold.s (Hold.s Hold.z))) | exact Hold.s (Hold.s (Hold.s (Hold.s (Hold.s Hold.z)))) | exact Hold.s (Hold.s (Hold.s (Hold.s (Hold.s (Hold.s Hold.z))))) | exact Hold.s (Hold.s (Hold.s (Hold.s (Hold.s (Hold.s (Hold.s Hold.z))))))))
local macro_rules | `(tactic| walk_at "upe") => `(tactic| (with_reducible first | exact UpE.z | exact UpE.s UpE.z | exact UpE.s (UpE.s UpE.z) | exact UpE.s (UpE.s (UpE.s UpE.z)) | exact UpE.s (UpE.s (UpE.s (UpE.s UpE.z))) | exact UpE.s (UpE.s (UpE.s (UpE.s (UpE.s UpE.z)))) | exact UpE.s (UpE.s (UpE.s (UpE.s (UpE.s (UpE.s UpE.z))))) | exact UpE.s (UpE.s (UpE.s (UpE.s (UpE.s (UpE.s (UpE.s UpE.z))))))))
local macro_rules | `(tactic| walk_at "fg") => `(tactic| (repeat (first | exact Fg.nil | (with_reducible refine Fg.keep rfl ?_) | (with_reducible refine Fg.drop ?_))))
local macro_rules | `(tactic| walk_at "nonb") => `(tactic| first | exact nonb_I | exact nonb_No | exact nonb_Bo | exact nonb_S | exact nonb_seq | exact nonb_tup)
local macro_rules | `(tactic| walk_at "istb") => `(tactic| first | exact istb_sc | exact istb_seq | exact istb_tup)

section
variable {M : Mo}
theorem d_eqE {c : Cc} {Γ : En} {ω ω1 ω2 : Ws} {a b : Expr} {P Q' : Int → Prop} {pos : Pos} (ha : DE c Γ ω a (Ei P) ω1) (hb : DE c Γ ω1 b (Ei Q') ω2) : DE c Γ ω (.Compare a [.Eq] [b] pos) (Es (fun z => ∃ i j, P i ∧ Q' j ∧ z = decide (i = j)) Bo) ω2 := d_cmp (fun _ _ => op_eq) ha hb (rr_ET fun _ _ _ _ => by rw [← vint]; exact rr_eq rfl) (nomark _)
theorem lay_ints : ∀ ns : List Int, PyData.canLayAll0 (ns.map PyData.int) = true
  | [] => by simp only [List.map_nil, PyData.canLayAll0]
  | n :: ns => by simp only [List.map_cons, PyData.canLayAll0, PyData.canLay0, lay_ints ns, Bool.and_true]
theorem dep_ints : ∀ ns : List Int, PyData.depthAll (ns.map PyData.int) = 0
  | [] => by simp only [List.map_nil, PyData.depthAll]
  | n :: ns => by simp only [List.map_cons, PyData.depthAll, PyData.depth, dep_ints ns]; rfl
theorem lay_lints (ns : List Int) : PyData.canLay0 (.list (ns.map PyData.int)) = true := by simp only [PyData.canLay0]; exact lay_ints ns
theorem shp_ints (ns : List Int) : SeqAt.shaped (.list (ns.map PyData.int)) = true := by
  unfold SeqAt.shaped
  rw [lay_lints, Bool.true_and]
  refine decide_eq_true ?_
  simp only [PyData.depth, dep_ints]
  decide
theorem t_neInts {c : Cc} [Cold c] {Γ : En} {ω ω1 ω2 : Ws} {a b : Expr} {pos : Pos} {ns : List Int} (ha : DE c Γ ω a (L I ns) ω1) (hb : DE c Γ ω1 b (L I ns) ω2) : DT c Γ ω (.Compare a [.NotEq] [b] pos) (· = false) ω2 :=
  t_cmp (r := rNeD c.M.K) (fun X fx => by rw [← fx.K]; exact op_neD fx.room.units) ha hb (fun F ω B H v u q1 q2 O Q q => ⟨.list (ns.map PyData.int), .list (ns.map PyData.int), dp_mono O.ex (isd_seq (bb := true) (fun _ => isd_int) _ B v q1), dp_mono O.ex (isd_seq (bb := true) (fun _ => isd_int) _ B u q2), shp_ints ns, shp_ints ns, q _ B H (Ex.refl B) O ⟨_, by rw [PySem.SeqAt.eqv_refl _ (lay_lints ns)]; rfl, rfl⟩⟩) (nomark _)
/-! ### numbers -/
def l2 : Ct (Addr × Nat) := { As := fun g => [At g.1, I (g.2 : Int)], pre := fun g => g.2 ≤ 1000, S := fun g => Es (fun l => l.length = g.2 ∧ ∀ x ∈ l, 0 ≤ x ∧ x ≤ 999) (L I), ω := fun g => [po g.1], ω' := fun g => [po g.1] }
theorem okl2 (Bl : Blt M) (P : Pr M "_law_numbers" (stm 38) ["pool", "many"]) (Gpd : Gd M 1 "_law_draw" ["pool", "many"] pd) : Gd M 2 "_law_numbers" ["pool", "many"] l2 := by
  refine P.gd sc__law_numbers (by intro _; rfl) fun X B0 F0 D g hp hR hN => ?_
  obtain ⟨p, m⟩ := g
  dsimp only [mkΓ, l2] at hp hR ⊢
  refine ds_asgE (d_eqE (p_draw Gpd (Nat.le_of_ble_eq_true rfl) (d_name Has.z) d_int (by omega)) (DE.some d_int)) (Put.s (Put.s Put.z)) fun great _ => ⟨_, (Put.s (Put.s Put.z)), ?_⟩
  refine ds_own1 (n_lstQ (I) ([]) a_nil) (Put.s (Put.s (Put.s Put.z))) fun l_numbers => ⟨_, (Put.s (Put.s (Put.s Put.z))), ?_⟩
  refine ds_for (fun i Γ ω => ∃ l, l.length = i ∧ (∀ x ∈ l, 0 ≤ x ∧ x ≤ 999) ∧ Γ = ([("pool", some (At p)), ("many", some (I (m : Int))), ("great", some (Bo great)), ("numbers", some (At l_numbers)), ("k", none), ("one", none), ("other", none)] : En) ∧ ω = [po p, (l_numbers, Cl I l)]) (i_rng1 (d_name (Has.s Has.z)) Bl.range) (Γ0 := ([("pool", some (At p)), ("many", some (I (m : Int))), ("great", some (Bo great)), ("numbers", some (At l_numbers)), ("k", none), ("one", none), ("other", none)] : En)) (by walk_at "fg") ⟨[], rfl, fun _ h => absurd h (by simp), rfl, rfl⟩ ?_ ?_
  · rintro B1 hB1 i _ _ _ hi rfl ⟨l, hl, hx, rfl, rfl⟩ _
    have hi : i < m := by omega
    refine ⟨_, _, (g_name (Put.s (Put.s (Put.s (Put.s Put.z))))), ?_⟩
    refine ds_asgE (p_draw Gpd (Nat.le_of_ble_eq_true rfl) (d_name Has.z) d_int (by omega)) (Put.s (Put.s (Put.s (Put.s (Put.s Put.z))))) fun v_one h_one => ⟨_, (Put.s (Put.s (Put.s (Put.s (Put.s Put.z))))), ?_⟩
    refine ds_asgE (p_draw Gpd (Nat.le_of_ble_eq_true rfl) (d_name Has.z) d_int (by omega)) (Put.s (Put.s (Put.s (Put.s (Put.s (Put.s Put.z)))))) fun v_other h_other => ⟨_, (Put.s (Put.s (Put.s (Put.s (Put.s (Put.s Put.z)))))), ?_⟩
    refine ds_ifR (fun Γ ω => ∃ z, (0 ≤ z ∧ z ≤ 999) ∧ Γ = ([("pool", some (At p)), ("many", some (I (m : Int))), ("great", some (Bo great)), ("numbers", some (At l_numbers)), ("k", none), ("one", some (I z)), ("other", none)] : En) ∧ ω = [po p, (l_numbers, Cl I l)]) (t_val (d_name (Has.s (Has.s Has.z)))) ?_ ?_ ?_
    · intro _
      refine ds_asg (d_name (Has.s (Has.s (Has.s (Has.s (Has.s (Has.s Has.z))))))) (Put.s (Put.s (Put.s (Put.s (Put.s Put.z))))) ?_
      exact ds_turnJ (Γ1 := ([("pool", some (At p)), ("many", some (I (m : Int))), ("great", some (Bo great)), ("numbers", some (At l_numbers)), ("k", none), ("one", some (I v_other)), ("other", none)] : En)) (by walk_at "fg") ⟨v_other, by omega, rfl, rfl⟩ rfl rfl
    · intro _
      exact ds_turnJ (Γ1 := ([("pool", some (At p)), ("many", some (I (m : Int))), ("great", some (Bo great)), ("numbers", some (At l_numbers)), ("k", none), ("one", some (I v_one)), ("other", none)] : En)) (by walk_at "fg") ⟨v_one, by omega, rfl, rfl⟩ rfl rfl
    · rintro _ _ ⟨z, hz, rfl, rfl⟩ _
      refine ds_ifR (fun Γ ω => ∃ z, (0 ≤ z ∧ z ≤ 999) ∧ Γ = ([("pool", some (At p)), ("many", some (I (m : Int))), ("great", some (Bo great)), ("numbers", some (At l_numbers)), ("k", none), ("one", some (I z)), ("other", none)] : En) ∧ ω = [po p, (l_numbers, Cl I l)]) (e_eqI (p_draw Gpd (Nat.le_of_ble_eq_true rfl) (d_name Has.z) d_int (by omega)) (DE.some d_int)) ?_ ?_ ?_
      · intro _
        refine ds_asg d_int (Put.s (Put.s (Put.s (Put.s (Put.s Put.z))))) ?_
        exact ds_turnJ (Γ1 := ([("pool", some (At p)), ("many", some (I (m : Int))), ("great", some (Bo great)), ("numbers", some (At l_numbers)), ("k", none), ("one", some (I 0)), ("other", none)] : En)) (by walk_at "fg") ⟨0, by omega, rfl, rfl⟩ rfl rfl
      · intro _
        exact ds_turnJ (Γ1 := ([("pool", some (At p)), ("many", some (I (m : Int))), ("great", some (Bo great)), ("numbers", some (At l_numbers)), ("k", none), ("one", some (I z)), ("other", none)] : En)) (by walk_at "fg") ⟨z, hz, rfl, rfl⟩ rfl rfl
      · rintro _ _ ⟨z, hz, rfl, rfl⟩ _
        refine ds_app (d_name (Has.s (Has.s (Has.s Has.z)))) (d_name (Has.s (Has.s (Has.s (Has.s (Has.s Has.z)))))) (by walk_at "hold") (by walk_at "swp") (by rw [hl]; show _ < 16777216; have : m ≤ 1000 := hp; omega) ?_
        exact ds_turnJ (Γ1 := ([("pool", some (At p)), ("many", some (I (m : Int))), ("great", some (Bo great)), ("numbers", some (At l_numbers)), ("k", none), ("one", none), ("other", none)] : En)) (by walk_at "fg") ⟨l ++ [z], by simp [hl], fun x h => by
          rcases List.mem_append.mp h with h | h
          · exact hx x h
          · rw [List.mem_singleton.mp h]; exact hz, rfl, rfl⟩ rfl rfl
  · rintro _ _ ⟨l, hl, hx, rfl, rfl⟩ _
    refine ds_freeze (Upg.s (Upg.s (Upg.s Upg.z))) (by walk_at "tak") ?_
    exact ds_retE hR (d_name (Has.s (Has.s (Has.s Has.z)))) ⟨by rw [hl]; show ((m : Int)).toNat = m; omega, hx⟩ (fun B H O => O)
/-! ### misses -/
def l3 : Ct (List Int × Nat) := { As := fun g => [L I g.1, I (g.2 : Int)], pre := fun g => 1 ≤ g.2 ∧ g.2 < g.1.length ∧ Pst g.1, S := fun g => I (mss g.1 g.2) }
theorem okl3 (Bl : Blt M) (P : Pr M "_law_miss" (stm 39) ["past", "many"]) : Gd M 1 "_law_miss" ["past", "many"] l3 := by
  refine P.gd sc__law_miss (by intro _; rfl) fun X B0 F0 D g hp hR hN => ?_
  obtain ⟨past, m⟩ := g
  dsimp only [mkΓ, l3] at hp hR ⊢
  obtain ⟨hm1, hm2, hp⟩ := hp
  have hl := hp.1
  refine ds_asg d_int (Put.s (Put.s Put.z)) ?_
  refine ds_forF (fun i => ([("past", some (L I past)), ("many", some (I (m : Int))), ("over", some (I (tot (gsq past m) i))), ("place", none), ("gap", none)] : En)) (fun i => []) (i_rng2 (d_name (Has.s Has.z)) (d_len (d_name Has.z) Bl.len) Bl.range) (by walk_at "fg") rfl ?_ ?_
  · rintro B1 hB1 i _ hi rfl
    have hi : m + i < past.length := by omega
    have b4 := gap_in hp hi
    refine ⟨_, _, (g_name (Put.s (Put.s (Put.s Put.z)))), ?_⟩
    refine ds_asg (DE.eqI (j := K27.gap past m i) (d_sub (d_mul (d_name (Has.s Has.z)) (d_ix (d_name Has.z) (d_name (Has.s (Has.s (Has.s Has.z)))) (atI_of (j := m + i) (by omega) (at_w hi))) (Or.inl ⟨by omega, by omega⟩)) (d_sumB (d_sl (d_name Has.z) (o_some (d_sub (d_name (Has.s (Has.s (Has.s Has.z)))) (d_name (Has.s Has.z)))) (o_some (d_name (Has.s (Has.s (Has.s Has.z)))))) Bl.sum)) (by rw [cut_part (l := past) (j := i) (k := m + i) (by omega) (by omega) (by omega)]; rfl)) (Put.s (Put.s (Put.s (Put.s Put.z)))) ?_
    refine ds_asg (d_add (d_name (Has.s (Has.s Has.z))) (d_mul (d_name (Has.s (Has.s (Has.s (Has.s Has.z))))) (d_name (Has.s (Has.s (Has.s (Has.s Has.z))))) (Or.inl ⟨by omega, by omega⟩))) (Put.s (Put.s Put.z)) ?_
    exact ds_turnF (by walk_at "fg") rfl rfl rfl
  · rw [show ((past.length : Int) - (m : Int)).toNat = past.length - m by omega]
    exact ds_ret0 hR (d_name (Has.s (Has.s Has.z)))
def l4 : Ct (List Int × Nat) := { As := fun g => [L I g.1, I (g.2 : Int)], pre := fun g => 1 ≤ g.2 ∧ g.2 < g.1.length ∧ Pst g.1, S := fun g => I ((bst g.1 g.2 : Nat) : Int) }
theorem okl4 (Bl : Blt M) (P : Pr M "_law_best" (stm 40) ["past", "most"]) (L3 : Gd M 1 "_law_miss" ["past", "many"] l3) : Gd M 2 "_law_best" ["past", "most"] l4 := by
  refine P.gd sc__law_best (by intro _; rfl) fun X B0 F0 D g hp hR hN => ?_
  obtain ⟨past, most⟩ := g
  dsimp only [mkΓ, l4] at hp hR ⊢
  obtain ⟨hm1, hm2, hp⟩ := hp
  have hl := hp.1
  refine ds_asg d_int (Put.s (Put.s Put.z)) ?_
  refine ds_forF (fun i => ([("past", some (L I past)), ("most", some (I (most : Int))), ("best", some (I ((bst past (i + 1) : Nat) : Int))), ("many", none), ("one", none), ("other", none)] : En)) (fun i => []) (i_rng2 d_int (d_add (d_name (Has.s Has.z)) d_int) Bl.range) (by walk_at "fg") rfl ?_ ?_
  · rintro B1 hB1 i _ hi rfl
    have hi : i + 2 ≤ most := by omega
    have b1 := bst_in (past := past) (k := i + 1)
    have e1 : (2 : Int) + (i : Int) = ((i + 2 : Nat) : Int) := by omega
    refine ⟨_, _, (g_name (Put.s (Put.s (Put.s Put.z)))), ?_⟩
    rw [e1]
    have hb : (bst past (i + 1) : Int) ≤ 11 := by omega
    refine ds_asg (d_mul (d_mul (d_mul (d_call0 (t := l3) ((past, i + 2)) L3 (Nat.le_of_ble_eq_true rfl) (a_cons (d_name Has.z) (a_cons (d_name (Has.s (Has.s (Has.s Has.z)))) a_nil)) rfl ⟨by show 1 ≤ i + 2; omega, by show i + 2 < past.length; omega, hp⟩) (d_name (Has.s (Has.s Has.z))) (Or.inr ⟨by omega, by omega⟩)) (d_name (Has.s (Has.s Has.z))) (Or.inr ⟨by omega, by omega⟩)) (d_sub (d_len (d_name Has.z) Bl.len) (d_name (Has.s (Has.s Has.z)))) (Or.inr ⟨by omega, by omega⟩)) (Put.s (Put.s (Put.s (Put.s Put.z)))) ?_
    refine ds_asg (d_mul (d_mul (d_mul (d_call0 (t := l3) ((past, bst past (i + 1))) L3 (Nat.le_of_ble_eq_true rfl) (a_cons (d_name Has.z) (a_cons (d_name (Has.s (Has.s Has.z))) a_nil)) rfl ⟨b1.1, by show bst past (i + 1) < past.length; omega, hp⟩) (d_name (Has.s (Has.s (Has.s Has.z)))) (Or.inr ⟨by omega, by omega⟩)) (d_name (Has.s (Has.s (Has.s Has.z)))) (Or.inr ⟨by omega, by omega⟩)) (d_sub (d_len (d_name Has.z) Bl.len) (d_name (Has.s (Has.s (Has.s Has.z))))) (Or.inr ⟨by omega, by omega⟩)) (Put.s (Put.s (Put.s (Put.s (Put.s Put.z))))) ?_
    have hlt : decide (mss past (i + 2) * ((bst past (i + 1) : Nat) : Int) * ((bst past (i + 1) : Nat) : Int) * ((past.length : Int) - ((bst past (i + 1) : Nat) : Int)) < mss past (bst past (i + 1)) * ((i + 2 : Nat) : Int) * ((i + 2 : Nat) : Int) * ((past.length : Int) - ((i + 2 : Nat) : Int))) = btr past (i + 1 + 1) (bst past (i + 1)) := by
      unfold btr dn
      simp only [Int.mul_assoc]
    refine ds_if (DT.eqB (t_lt (d_name (Has.s (Has.s (Has.s (Has.s Has.z))))) (d_name (Has.s (Has.s (Has.s (Has.s (Has.s Has.z))))))) hlt) ?_ ?_
    · intro h
      have h : btr past (i + 1 + 1) (bst past (i + 1)) = true := h.symm
      refine ds_asg (d_name (Has.s (Has.s (Has.s Has.z)))) (Put.s (Put.s Put.z)) ?_
      refine ds_next ?_
      exact ds_turnF (by rw [bst_yes (past := past) (k := i + 1) (by omega) h]; walk_at "fg") rfl rfl rfl
    · intro h
      have h : btr past (i + 1 + 1) (bst past (i + 1)) = false := h.symm
      refine ds_next ?_
      exact ds_turnF (by rw [bst_no (past := past) (k := i + 1) (by omega) h]; walk_at "fg") rfl rfl rfl
  · obtain ⟨k, rfl⟩ : ∃ k, most = k + 1 := ⟨most - 1, by omega⟩
    rw [show ((((k + 1 : Nat) : Int) + 1) - 2).toNat = k by omega]
    exact ds_ret0 hR (d_name (Has.s (Has.s Has.z)))
end
end K27

set_option maxHeartbeats 2000000
/-! K27i: the law on outlooks and levels, on. -/
namespace K27
open PySem PySem.Spec PyProof.Rows L2 ZZ
open Evl (Ex)
local macro_rules | `(tactic| walk_at "has") => `(tactic| (with_reducible first | exact Has.z | exact Has.s Has.z | exact Has.s (Has.s Has.z) | exact Has.s (Has.s (Has.s Has.z)) | exact Has.s (Has.s (Has.s (Has.s Has.z))) | exact Has.s (Has.s (Has.s (Has.s (Has.s Has.z)))) | exact Has.s (Has.s (Has.s (Has.s (Has.s (Has.s Has.z))))) | exact Has.s (Has.s (Has.s (Has.s (Has.s (Has.s (Has.s Has.z))))))))
local macro_rules | `(tactic| walk_at "put") => `(tactic| (with_reducible first | exact Put.z | exact Put.s Put.z | exact Put.s (Put.s Put.z) | exact Put.s (Put.s (Put.s Put.z)) | exact Put.s (Put.s (Put.s (Put.s Put.z))) | exact Put.s (Put.s (Put.s (Put.s (Put.s Put.z)))) | exact Put.s (Put.s (Put.s (Put.s (Put.s (Put.s Put.z))))) | exact Put.s (Put.s (Put.s (Put.s (Put.s (Put.s (Put.s Put.z))))))))
local macro_rules | `(tactic| walk_at "swp") => `(tactic| (with_reducible first | exact Swp.z | exact Swp.s Swp.z | exact Swp.s (Swp.s Swp.z) | exact Swp.s (Swp.s (Swp.s Swp.z)) | exact Swp.s (Swp.s (Swp.s (Swp.s Swp.z))) | exact Swp.s (Swp.s (Swp.s (Swp.s (Swp.s Swp.z)))) | exact Swp.s (Swp.s (Swp.s (Swp.s (Swp.s (Swp.s Swp.z))))) | exact Swp.s (Swp.s (Swp.s (Swp.s (Swp.s (Swp.s (Swp.s Swp.z))))))))
local macro_rules | `(tactic| walk_at "tak") => `(tactic| (with_reducible first | exact Tak.z | exact Tak.s Tak.z | exact Tak.s (Tak.s Tak.z) | exact Tak.s (Tak.s (Tak.s Tak.z)) | exact Tak.s (Tak.s (Tak.s (Tak.s Tak.z))) | exact Tak.s (Tak.s (Tak.s (Tak.s (Tak.s Tak.z)))) | exact Tak.s (Tak.s (Tak.s (Tak.s (Tak.s (Tak.s Tak.z))))) | exact Tak.s (Tak.s (Tak.s (Tak.s (Tak.s (Tak.s (Tak.s Tak.z))))))))
local macro_rules | `(tactic| walk_at "hold") => `(tactic| (with_reducible first | exact Hold.z | exact Hold.s Hold.z | exact Hold.s (Hold.s Hold.z) | exact Hold.s (Hold.s (Hold.s Hold.z)) | exact Hold.s (Hold.s (Hold.s (Hold.s Hold.z))) | exact Hold.s (Hold.s (Hold.s (Hold.s (Hold.s Hold.z)))) | exact Hold.s (Hold.s (Hold.s (Hold.s (Hold.s (Hold.s Hold.z))))) | exact Hold.s (Hold.s (Hold.s (Hold.s (Hold.s (Hold.s (Hold.s Hold.z))))))))
local macro_rules | `(tactic| walk_at "upe") => `(tactic| (with_reducible first | exact UpE.z | exact UpE.s UpE.z | exact UpE.s (UpE.s UpE.z) | exact UpE.s (UpE.s (UpE.s UpE.z)) | exact UpE.s (UpE.s (UpE.s (UpE.s UpE.z))) | exact UpE.s (UpE.s (UpE.s (UpE.s (UpE.s UpE.z)))) | exact UpE.s (UpE.s (UpE.s (UpE.s (UpE.s (UpE.s UpE.z))))) | exact UpE.s (UpE.s (UpE.s (UpE.s (UpE.s (UpE.s (UpE.s UpE.z))))))))
local macro_rules | `(tactic| walk_at "fg") => `(tactic| (repeat (first | exact Fg.nil | (with_reducible refine Fg.keep rfl ?_) | (with_reducible refine Fg.drop ?_))))
local macro_rules | `(tactic| walk_at "nonb") => `(tactic| first | exact nonb_I | exact nonb_No | exact nonb_Bo | exact nonb_S | exact nonb_seq | exact nonb_tup)
local macro_rules | `(tactic| walk_at "istb") => `(tactic| first | exact istb_sc | exact istb_seq | exact istb_tup)

section
variable {M : Mo}
def l5 : Ct (List Int × (Nat × Nat)) := { As := fun g => [L I g.1, I (g.2.1 : Int), I (g.2.2 : Int)], pre := fun g => (1 ≤ g.2.1 ∧ g.2.1 < g.1.length) ∧ (1 ≤ g.2.2 ∧ g.2.2 < g.1.length) ∧ Pst g.1, S := fun _ => Bo true }
theorem okl5 (Bl : Blt M) (P : Pr M "_law_outlook_holds" (stm 41) ["past", "most", "many"]) (L1 : Gd M 1 "_law_fraction" ["over", "under"] l1) (L3 : Gd M 1 "_law_miss" ["past", "many"] l3) (L4 : Gd M 2 "_law_best" ["past", "most"] l4) (D7 : Gd M 2 "mean_last" ["past", "many"] d7) (D8 : Gd M 4 "miss_sum" ["past", "many"] d8) (D9 : Gd M 5 "best_many" ["past", "most"] d9) (D10 : Gd M 6 "next_want" ["past", "most"] d10)
    (GI : Gd M 1 "_law_same" ["told", "due"] sI) (GP : Gd M 2 "_law_same" ["told", "due"] sP) : Gd M 7 "_law_outlook_holds" ["past", "most", "many"] l5 := by
  refine P.gd sc__law_outlook_holds (by intro _; rfl) fun X B0 F0 D g hp hR hN => ?_
  obtain ⟨past, most, m⟩ := g
  dsimp only [mkΓ, l5] at hp hR ⊢
  obtain ⟨⟨a1, a2⟩, ⟨b1, b2⟩, hp⟩ := hp
  have hl := hp.1
  have bb := bst_in (past := past) (k := most)
  refine ds_asg (d_list (d_name Has.z) Bl.list) (Put.s (Put.s (Put.s Put.z))) ?_
  refine ds_ifF (t_notD (t_val (d_call0 (t := sI) (((bst past most : Nat) : Int)) GI (Nat.le_of_ble_eq_true rfl) (a_cons (d_call0 (t := d9) (((true, past), most)) D9 (Nat.le_of_ble_eq_true rfl) (a_cons (d_name (Has.s (Has.s (Has.s Has.z)))) (a_cons (d_name (Has.s Has.z)) a_nil)) rfl ⟨a1, a2, hp⟩) (a_cons (d_call0 (t := l4) ((past, most)) L4 (Nat.le_of_ble_eq_true rfl) (a_cons (d_name Has.z) (a_cons (d_name (Has.s Has.z)) a_nil)) rfl ⟨a1, a2, hp⟩) a_nil)) rfl trivial))) rfl (ds_next ?_)
  refine ds_ifF (t_neInts (d_name (Has.s (Has.s (Has.s Has.z)))) (d_name Has.z)) rfl (ds_next ?_)
  obtain ⟨s1, s2⟩ := sq_in b1 (by omega)
  have ms := mss_in hp (m := m) (by omega)
  refine ds_asg (d_call0 (t := l1) ((mss past m, (m : Int) * (m : Int))) L1 (Nat.le_of_ble_eq_true rfl) (a_cons (d_call0 (t := l3) ((past, m)) L3 (Nat.le_of_ble_eq_true rfl) (a_cons (d_name Has.z) (a_cons (d_name (Has.s (Has.s Has.z))) a_nil)) rfl ⟨b1, b2, hp⟩) (a_cons (d_mul (d_name (Has.s (Has.s Has.z))) (d_name (Has.s (Has.s Has.z))) (Or.inl ⟨by omega, by omega⟩)) a_nil)) rfl ⟨ms.1, by show 0 < (m : Int) * (m : Int); omega, s2⟩) (Put.s (Put.s (Put.s (Put.s Put.z)))) ?_
  refine ds_ifF (t_notD (t_val (d_call0 (t := sP) ((red (mss past m) ((m : Int) * (m : Int)))) GP (Nat.le_of_ble_eq_true rfl) (a_cons (d_call0 (t := d8) (((false, past), m)) D8 (Nat.le_of_ble_eq_true rfl) (a_cons (d_tuple (d_name Has.z) Bl.tuple) (a_cons (d_name (Has.s (Has.s Has.z))) a_nil)) rfl ⟨b1, b2, hp⟩) (a_cons (d_name (Has.s (Has.s (Has.s (Has.s Has.z))))) a_nil)) rfl trivial))) rfl (ds_next ?_)
  refine ds_asg (d_call0 (t := l4) ((past, most)) L4 (Nat.le_of_ble_eq_true rfl) (a_cons (d_name Has.z) (a_cons (d_name (Has.s Has.z)) a_nil)) rfl ⟨a1, a2, hp⟩) (Put.s (Put.s (Put.s (Put.s (Put.s Put.z))))) ?_
  have e := cut_last (l := past) (j := past.length - bst past most) (i := (past.length : Int) - ((bst past most : Nat) : Int)) (by omega) (by omega)
  refine ds_asg (DE.eqI (j := lst past (bst past most)) (d_sumB (d_sl (d_name Has.z) (o_some (d_sub (d_len (d_name Has.z) Bl.len) (d_name (Has.s (Has.s (Has.s (Has.s (Has.s Has.z)))))))) o_none) Bl.sum) e) (Put.s (Put.s (Put.s (Put.s (Put.s (Put.s Put.z)))))) ?_
  have l0 : 0 ≤ lst past (bst past most) := by
    have := pre_mono hp.2 (j := past.length - bst past most) (d := bst past most)
    rw [show past.length - bst past most + bst past most = past.length by omega] at this
    unfold lst
    omega
  refine ds_ifF (t_notD (t_val (d_call0 (t := sP) ((red (lst past (bst past most)) ((bst past most : Nat) : Int))) GP (Nat.le_of_ble_eq_true rfl) (a_cons (d_call0 (t := d7) (((true, past), bst past most)) D7 (Nat.le_of_ble_eq_true rfl) (a_cons (d_list (d_name Has.z) Bl.list) (a_cons (d_name (Has.s (Has.s (Has.s (Has.s (Has.s Has.z)))))) a_nil)) rfl ⟨bb.1, by show bst past most ≤ past.length; omega, by show past.length ≤ 100; omega⟩) (a_cons (d_call0 (t := l1) ((lst past (bst past most), ((bst past most : Nat) : Int))) L1 (Nat.le_of_ble_eq_true rfl) (a_cons (d_name (Has.s (Has.s (Has.s (Has.s (Has.s (Has.s Has.z))))))) (a_cons (d_name (Has.s (Has.s (Has.s (Has.s (Has.s Has.z)))))) a_nil)) rfl ⟨l0, by show (0 : Int) < ((bst past most : Nat) : Int); omega, by show ((bst past most : Nat) : Int) ≤ 100; omega⟩) a_nil)) rfl trivial))) rfl (ds_next ?_)
  exact ds_ret0 hR (d_call0 (t := sI) (((lst past (bst past most) + ((bst past most : Nat) : Int) - 1) / ((bst past most : Nat) : Int))) GI (Nat.le_of_ble_eq_true rfl) (a_cons (d_call0 (t := d10) (((true, past), most)) D10 (Nat.le_of_ble_eq_true rfl) (a_cons (d_list (d_name Has.z) Bl.list) (a_cons (d_name (Has.s Has.z)) a_nil)) rfl ⟨a1, a2, hp⟩) (a_cons (d_div (d_sub (d_add (d_name (Has.s (Has.s (Has.s (Has.s (Has.s (Has.s Has.z))))))) (d_name (Has.s (Has.s (Has.s (Has.s (Has.s Has.z))))))) d_int) (d_name (Has.s (Has.s (Has.s (Has.s (Has.s Has.z)))))) ⟨by show (0 : Int) < ((bst past most : Nat) : Int); omega, by show ((bst past most : Nat) : Int) < 1073741824; omega⟩) a_nil)) rfl trivial) rfl
def l6 : Ct (List Int × Nat) := { As := fun g => [L I g.1, I (g.2 : Int)], pre := fun g => g.1.length ≤ 100, S := fun g => L I (tab (win g.1 g.2) g.1.length) }
theorem okl6 (Bl : Blt M) (P : Pr M "_law_windows" (stm 42) ["wants", "lead"]) : Gd M 1 "_law_windows" ["wants", "lead"] l6 := by
  refine P.gd sc__law_windows (by intro _; rfl) fun X B0 F0 D g hp hR hN => ?_
  obtain ⟨wants, lead⟩ := g
  dsimp only [mkΓ, l6] at hp hR ⊢
  refine ds_ret0 hR (DN.frz (n_lcM (own := [("day", 2)]) (Γw := ([("wants", some (L I wants)), ("lead", some (I (lead : Int))), ("day", none)] : En)) (R := I) (blkOk_by (by show blkC nm__law_windows (defScope (stm 42)) _ _ = true; decide +kernel)) (by repeat constructor) (i_rng1 (d_len (d_name Has.z) Bl.len) Bl.range) ((tab (win wants lead) wants.length)) ?_ ?_ ?_)) rfl
  · rw [tab_len]; omega
  · show _ < 16777216
    omega
  · rintro i _ z rfl hz
    obtain ⟨hi, rfl⟩ := tab_get' hz
    exact ⟨_, _, (g_name (Put.s (Put.s Put.z))), by simp, DE.eqI (d_sumB (d_sl (d_name Has.z) (o_some (d_max2 d_int (d_add (d_sub (d_name (Has.s (Has.s Has.z))) (d_name (Has.s Has.z))) d_int) Bl.max)) (o_some (d_add (d_name (Has.s (Has.s Has.z))) d_int))) Bl.sum) (cut_win (by omega) (by omega))⟩
/-- the most of a list -/
def mxl (l : List Int) : Int := 0 - mnl (l.map fun x => 0 - x)
theorem mxl_mem {l : List Int} (h : l ≠ []) : mxl l ∈ l := by
  have q := mnl_mem (l := l.map fun x => 0 - x) (by simpa using h)
  obtain ⟨x, hx, e⟩ := List.mem_map.mp q
  unfold mxl
  rw [← e, show 0 - (0 - x) = x by omega]
  exact hx
theorem mxl_le {l : List Int} {z : Int} (h : z ∈ l) : z ≤ mxl l := by
  have q := mnl_le (l := l.map fun x => 0 - x) (z := 0 - z) (List.mem_map.mpr ⟨z, h, rfl⟩)
  unfold mxl
  omega
def l7 : Ct (Addr × (List Int × Int)) := { As := fun g => [At g.1, L I g.2.1, I g.2.2], pre := fun g => g.2.1 ≠ [] ∧ g.2.1.length ≤ 100 ∧ (∀ x ∈ g.2.1, 0 ≤ x) ∧ 0 ≤ g.2.2, S := fun _ => Ei (fun h => 0 ≤ h), ω := fun g => [po g.1], ω' := fun g => [po g.1] }
theorem okl7 (Bl : Blt M) (P : Pr M "_law_level" (stm 43) ["pool", "spans", "told"]) (Gpd : Gd M 1 "_law_draw" ["pool", "many"] pd) : Gd M 2 "_law_level" ["pool", "spans", "told"] l7 := by
  refine P.gd sc__law_level (by intro _; rfl) fun X B0 F0 D g hp hR hN => ?_
  obtain ⟨p, spans, told⟩ := g
  dsimp only [mkΓ, l7] at hp hR ⊢
  obtain ⟨h1, h2, h3, h4⟩ := hp
  have hpos : 0 < spans.length := List.length_pos_iff.mpr h1
  refine ds_asgE (e_ix (d_name (Has.s Has.z)) (p_draw Gpd (Nat.le_of_ble_eq_true rfl) (d_name Has.z) (d_len (d_name (Has.s Has.z)) Bl.len) (by omega)) (fun k hk => hk)) (Put.s (Put.s (Put.s Put.z))) fun v_one h_one => ⟨_, (Put.s (Put.s (Put.s Put.z))), ?_⟩
  have ho : 0 ≤ v_one := by
    obtain ⟨k, _, hk⟩ := h_one
    refine h3 _ ?_
    unfold L2.atI at hk
    obtain ⟨j, _, hk⟩ := Option.bind_eq_some_iff.mp hk
    exact List.mem_of_getElem? hk
  have ht := h3 _ (mxl_mem h1)
  refine ds_asg (d_maxL (DN.frz (n_lcM (own := [("window", 6)]) (Γw := ([("pool", some (At p)), ("spans", some (L I spans)), ("told", some (I told)), ("one", some (I v_one)), ("top", none), ("way", none), ("window", none)] : En)) (R := I) (blkOk_by (by show blkC nm__law_level (defScope (stm 43)) _ _ = true; decide +kernel)) (by repeat constructor) (i_seq (d_name (Has.s Has.z))) (spans) ?_ ?_ ?_)) (mxl_mem h1) (fun y hy => mxl_le hy) Bl.max) (Put.s (Put.s (Put.s (Put.s Put.z)))) ?_
  · rfl
  · show _ < 16777216
    omega
  · intro i y z hy hz
    rw [hy] at hz
    obtain rfl := Option.some.inj hz
    exact ⟨_, _, (g_name (Put.s (Put.s (Put.s (Put.s (Put.s (Put.s Put.z))))))), by simp, (d_intI (d_name (Has.s (Has.s (Has.s (Has.s (Has.s (Has.s Has.z))))))) Bl.int)⟩
  · refine ds_asgE (p_draw Gpd (Nat.le_of_ble_eq_true rfl) (d_name Has.z) d_int (by omega)) (Put.s (Put.s (Put.s (Put.s (Put.s Put.z))))) fun v_way h_way => ⟨_, (Put.s (Put.s (Put.s (Put.s (Put.s Put.z))))), ?_⟩
    refine ds_if (t_eqI (d_name (Has.s (Has.s (Has.s (Has.s (Has.s Has.z)))))) d_int) ?_ ?_
    · intro _
      exact ds_retE hR (d_name (Has.s (Has.s (Has.s (Has.s Has.z))))) ht (fun B H O => O)
    · intro _
      refine ds_next ?_
      refine ds_if (t_eqI (d_name (Has.s (Has.s (Has.s (Has.s (Has.s Has.z)))))) d_int) ?_ ?_
      · intro _
        exact ds_retE hR (d_max2 d_int (d_sub (d_name (Has.s (Has.s (Has.s (Has.s Has.z))))) d_int) Bl.max) (by omega) (fun B H O => O)
      · intro _
        refine ds_next ?_
        refine ds_if (t_eqI (d_name (Has.s (Has.s (Has.s (Has.s (Has.s Has.z)))))) d_int) ?_ ?_
        · intro _
          exact ds_retE hR (d_name (Has.s (Has.s (Has.s Has.z)))) ho (fun B H O => O)
        · intro _
          refine ds_next ?_
          exact ds_retE hR (d_name (Has.s (Has.s Has.z))) h4 (fun B H O => O)
/-! ### levels -/
def l8 : Ct (List Int × (Nat × Int)) := { As := fun g => [L I g.1, I (g.2.1 : Int), I g.2.2, L I (tab (win g.1 g.2.1) g.1.length)], pre := fun g => g.1.length ≤ 100 ∧ 1 ≤ g.2.1 ∧ 0 ≤ g.2.2, S := fun _ => Bo true }
theorem okl8 (Bl : Blt M) (P : Pr M "_law_rows_hold" (stm 44) ["wants", "lead", "height", "spans"]) (G1 : Gd M 1 "level_rows" ["wants", "lead", "level"] c1) (G2 : Gd M 2 "owed_days" ["wants", "lead", "level"] c2) (GI : Gd M 1 "_law_same" ["told", "due"] sI) (GQ : Gd M 3 "_law_same" ["told", "due"] sQ) : Gd M 4 "_law_rows_hold" ["wants", "lead", "height", "spans"] l8 := by
  refine P.gd sc__law_rows_hold (by intro _; rfl) fun X B0 F0 D g hp hR hN => ?_
  obtain ⟨wants, lead, height⟩ := g
  dsimp only [mkΓ, l8] at hp hR ⊢
  obtain ⟨h1, h2, h3⟩ := hp
  have el : lrw wants lead height = tab (fun d => (max 0 (height - win wants lead d), max 0 (win wants lead d - height))) wants.length := tab_ext fun d hd => st_eq h2 h3 hd
  refine ds_own0 (n_lstQ (P2) ((tab (fun d => (max 0 (height - win wants lead d), max 0 (win wants lead d - height))) 0)) a_nil) (Put.s (Put.s (Put.s (Put.s Put.z)))) fun l_rows => ⟨_, (Put.s (Put.s (Put.s (Put.s Put.z)))), ?_⟩
  refine ds_forF (fun i => ([("wants", some (L I wants)), ("lead", some (I (lead : Int))), ("height", some (I height)), ("spans", some (L I (tab (win wants lead) wants.length))), ("rows", some (At l_rows)), ("window", none), ("given", none), ("row", none)] : En)) (fun i => [(l_rows, Cl P2 (tab (fun d => (max 0 (height - win wants lead d), max 0 (win wants lead d - height))) i))]) (i_seq (d_name (Has.s (Has.s (Has.s Has.z))))) (by walk_at "fg") rfl ?_ ?_
  · rintro B1 hB1 i y hi hy
    obtain ⟨hi, rfl⟩ := tab_get' hy
    refine ⟨_, _, (g_name (Put.s (Put.s (Put.s (Put.s (Put.s Put.z)))))), ?_⟩
    refine ds_appQ (P2) ((max 0 (height - win wants lead i), max 0 (win wants lead i - height))) (d_name (Has.s (Has.s (Has.s (Has.s Has.z))))) (d_tup (a_cons (d_max2 d_int (d_sub (d_name (Has.s (Has.s Has.z))) (d_name (Has.s (Has.s (Has.s (Has.s (Has.s Has.z))))))) Bl.max) (a_cons (d_max2 d_int (d_sub (d_name (Has.s (Has.s (Has.s (Has.s (Has.s Has.z)))))) (d_name (Has.s (Has.s Has.z)))) Bl.max) a_nil))) rfl (by walk_at "hold") (by walk_at "swp") (by rw [tab_len]; show _ < 16777216; omega) ?_
    exact ds_turnF (by walk_at "fg") (by rw [tab_succ]) rfl rfl
  · rw [tab_len, ← el]
    refine ds_freeze (Upg.s (Upg.s (Upg.s (Upg.s Upg.z)))) (by walk_at "tak") ?_
    have ll : (lrw wants lead height).length = wants.length := tab_len
    refine ds_asg (d_list (d_name Has.z) Bl.list) (Put.s (Put.s (Put.s (Put.s (Put.s (Put.s Put.z)))))) ?_
    refine ds_ifF (t_notD (t_val (d_call0 (t := sQ) ((lrw wants lead height)) GQ (Nat.le_of_ble_eq_true rfl) (a_cons (d_call0 (t := c1) (((true, wants), (lead, height))) G1 (Nat.le_of_ble_eq_true rfl) (a_cons (d_name (Has.s (Has.s (Has.s (Has.s (Has.s (Has.s Has.z))))))) (a_cons (d_name (Has.s Has.z)) (a_cons (d_name (Has.s (Has.s Has.z))) a_nil))) rfl h1) (a_cons (d_tuple (d_name (Has.s (Has.s (Has.s (Has.s Has.z))))) Bl.tuple) a_nil)) rfl (by show (lrw wants lead height).length ≤ 100000; omega)))) rfl (ds_next ?_)
    refine ds_ifF (t_neInts (d_name (Has.s (Has.s (Has.s (Has.s (Has.s (Has.s Has.z))))))) (d_name Has.z)) rfl (ds_next ?_)
    refine ds_ret0 hR (d_call0 (t := sI) (((((lrw wants lead height).filter fun x => decide (0 < x.2)).length : Nat) : Int)) GI (Nat.le_of_ble_eq_true rfl) (a_cons (d_call0 (t := c2) (((false, wants), (lead, height))) G2 (Nat.le_of_ble_eq_true rfl) (a_cons (d_tuple (d_name Has.z) Bl.tuple) (a_cons (d_name (Has.s Has.z)) (a_cons (d_name (Has.s (Has.s Has.z))) a_nil))) rfl h1) (a_cons (d_len (DN.frz (n_lcF (own := [("row", 7)]) (Γw := ([("wants", some (L I wants)), ("lead", some (I (lead : Int))), ("height", some (I height)), ("spans", some (L I (tab (win wants lead) wants.length))), ("rows", some (L P2 (lrw wants lead height))), ("window", none), ("given", some (L I wants)), ("row", none)] : En)) (R := P2) (ys := (lrw wants lead height)) ((fun x : Int × Int => x)) ((fun x : Int × Int => decide (0 < x.2))) (blkOk_by (by show blkC nm__law_rows_hold (defScope (stm 44)) _ _ = true; decide +kernel)) (by repeat constructor) (i_seq (d_name (Has.s (Has.s (Has.s (Has.s Has.z)))))) ?_ ?_ ?_ ?_)) Bl.len) a_nil)) (by rw [List.length_map]; rfl) trivial) rfl
    · rfl
    · exact fun i y _ h => h
    · show (lrw wants lead height).length < 16777216
      omega
    · rintro i y hi hy
      exact ⟨_, _, (g_name (Put.s (Put.s (Put.s (Put.s (Put.s (Put.s (Put.s Put.z)))))))), by simp, (t_gt (d_ixU (d_name (Has.s (Has.s (Has.s (Has.s (Has.s (Has.s (Has.s Has.z)))))))) d_int rfl) d_int), fun _ => (d_name (Has.s (Has.s (Has.s (Has.s (Has.s (Has.s (Has.s Has.z))))))))⟩
def l9 : Ct (List Int × ((Nat × Int) × Nat)) := { As := fun g => [L I g.1, I (g.2.1.1 : Int), I g.2.1.2, L I (tab (win g.1 g.2.1.1) g.1.length), I (g.2.2 : Int)], pre := fun g => g.1.length ≤ 100 ∧ 1 ≤ g.1.length ∧ 1 ≤ g.2.1.1 ∧ 0 ≤ g.2.1.2, S := fun _ => Bo true }
theorem okl9 (Bl : Blt M) (P : Pr M "_law_levels_hold" (stm 45) ["wants", "lead", "height", "spans", "days"]) (G3 : Gd M 1 "window_sums" ["wants", "lead"] c3) (G4 : Gd M 2 "least_level" ["wants", "lead", "days"] c4) (L8 : Gd M 4 "_law_rows_hold" ["wants", "lead", "height", "spans"] l8) (GI : Gd M 1 "_law_same" ["told", "due"] sI) (GL : Gd M 2 "_law_same" ["told", "due"] sL) : Gd M 5 "_law_levels_hold" ["wants", "lead", "height", "spans", "days"] l9 := by
  refine P.gd sc__law_levels_hold (by intro _; rfl) fun X B0 F0 D g hp hR hN => ?_
  obtain ⟨wants, ⟨lead, height⟩, days⟩ := g
  dsimp only [mkΓ, l9] at hp hR ⊢
  obtain ⟨h1, h0, h2, h3⟩ := hp
  refine ds_ifF (t_notD (t_val (d_call0 (t := sL) ((tab (win wants lead) wants.length)) GL (Nat.le_of_ble_eq_true rfl) (a_cons (d_call0 (t := c3) (((true, wants), lead)) G3 (Nat.le_of_ble_eq_true rfl) (a_cons (d_list (d_name Has.z) Bl.list) (a_cons (d_name (Has.s Has.z)) a_nil)) rfl h1) (a_cons (d_tuple (d_name (Has.s (Has.s (Has.s Has.z)))) Bl.tuple) a_nil)) rfl (by show (tab (win wants lead) wants.length).length ≤ 100000; rw [tab_len]; omega)))) rfl (ds_next ?_)
  refine ds_ifF (t_notD (t_val (d_call0 (t := l8) ((wants, (lead, height))) L8 (Nat.le_of_ble_eq_true rfl) (a_cons (d_name Has.z) (a_cons (d_name (Has.s Has.z)) (a_cons (d_name (Has.s (Has.s Has.z))) (a_cons (d_name (Has.s (Has.s (Has.s Has.z)))) a_nil)))) rfl ⟨h1, h2, h3⟩))) rfl (ds_next ?_)
  refine ds_ifF (t_notD (t_val (d_call0 (t := l8) ((wants, (lead, height + 1))) L8 (Nat.le_of_ble_eq_true rfl) (a_cons (d_name Has.z) (a_cons (d_name (Has.s Has.z)) (a_cons (d_add (d_name (Has.s (Has.s Has.z))) d_int) (a_cons (d_name (Has.s (Has.s (Has.s Has.z)))) a_nil)))) rfl ⟨h1, h2, by show 0 ≤ height + 1; omega⟩))) rfl (ds_next ?_)
  refine ds_asgE (n_sorted (ns := (tab (win wants lead) wants.length).map fun x => 0 - x) (DN.frz (n_lcM (own := [("window", 7)]) (Γw := ([("wants", some (L I wants)), ("lead", some (I (lead : Int))), ("height", some (I height)), ("spans", some (L I (tab (win wants lead) wants.length))), ("days", some (I (days : Int))), ("falling", none), ("due", none), ("window", none)] : En)) (R := I) (blkOk_by (by show blkC nm__law_levels_hold (defScope (stm 45)) _ _ = true; decide +kernel)) (by repeat constructor) (i_seq (d_name (Has.s (Has.s (Has.s Has.z))))) ((tab (win wants lead) wants.length).map fun x => 0 - x) ?_ ?_ ?_)) Bl.sorted).frz (Put.s (Put.s (Put.s (Put.s (Put.s Put.z))))) fun ys hy => ⟨_, (Put.s (Put.s (Put.s (Put.s (Put.s Put.z))))), ?_⟩
  · rw [List.length_map]
  · show _ < 16777216
    rw [tab_len]
    omega
  · intro i y z hy hz
    rw [List.getElem?_map, hy] at hz
    obtain rfl := Option.some.inj hz
    exact ⟨_, _, (g_name (Put.s (Put.s (Put.s (Put.s (Put.s (Put.s (Put.s Put.z)))))))), by simp, (d_sub d_int (d_intI (d_name (Has.s (Has.s (Has.s (Has.s (Has.s (Has.s (Has.s Has.z)))))))) Bl.int))⟩
  · obtain rfl := srt_of hy.1 hy.2
    have hl : (srt ((tab (win wants lead) wants.length).map fun x => 0 - x)).length = wants.length := by rw [srt_len, List.length_map, tab_len]
    have hd : ∀ d, d < wants.length → (srt ((tab (win wants lead) wants.length).map fun x => 0 - x))[d]? = some (0 - lvl (tab (win wants lead) wants.length) d) := fun d hd => lvl_neg (by rw [tab_len]; exact hd)
    refine ds_ifF (t_notD (t_val (d_call0 (t := sI) ((lvl (tab (win wants lead) wants.length) 0)) GI (Nat.le_of_ble_eq_true rfl) (a_cons (d_call0 (t := c4) (((true, wants), (lead, 0))) G4 (Nat.le_of_ble_eq_true rfl) (a_cons (d_list (d_name Has.z) Bl.list) (a_cons (d_name (Has.s Has.z)) (a_cons d_int a_nil))) rfl h1) (a_cons (d_sub d_int (d_ix (d_name (Has.s (Has.s (Has.s (Has.s (Has.s Has.z)))))) d_int (atI_of (j := 0) rfl (hd 0 h0)))) a_nil)) (by show [I (lvl _ _), I (0 - (0 - lvl _ _))] = _; rw [show ∀ z : Int, 0 - (0 - z) = z from fun z => by omega]; rfl) trivial))) rfl (ds_next ?_)
    refine ds_asg d_int (Put.s (Put.s (Put.s (Put.s (Put.s (Put.s Put.z)))))) ?_
    refine ds_ifJ ([("wants", some (L I wants)), ("lead", some (I (lead : Int))), ("height", none), ("spans", none), ("days", some (I (days : Int))), ("falling", none), ("due", some (I (lvl (tab (win wants lead) wants.length) days))), ("window", none)] : En) [] rfl (t_lt (d_name (Has.s (Has.s (Has.s (Has.s Has.z))))) (d_len (d_name (Has.s (Has.s (Has.s (Has.s (Has.s Has.z)))))) Bl.len)) ?_ ?_ ?_
    · intro h
      have h : (days : Int) < (srt ((tab (win wants lead) wants.length).map fun x => 0 - x)).length := of_decide_eq_true h.symm
      refine ds_asg (DE.eqI (j := lvl (tab (win wants lead) wants.length) days) (d_sub d_int (d_ix (d_name (Has.s (Has.s (Has.s (Has.s (Has.s Has.z)))))) (d_name (Has.s (Has.s (Has.s (Has.s Has.z))))) (atI_of (j := days) rfl (hd days (by omega))))) (by omega)) (Put.s (Put.s (Put.s (Put.s (Put.s (Put.s Put.z)))))) ?_
      exact ds_meet (by walk_at "fg") rfl rfl rfl
    · intro h
      have h : ¬ (days : Int) < (srt ((tab (win wants lead) wants.length).map fun x => 0 - x)).length := of_decide_eq_false h.symm
      exact ds_meet (by unfold lvl; rw [if_neg (by rw [tab_len]; omega)]; walk_at "fg") rfl rfl rfl
    · exact ds_ret0 hR (d_call0 (t := sI) ((lvl (tab (win wants lead) wants.length) days)) GI (Nat.le_of_ble_eq_true rfl) (a_cons (d_call0 (t := c4) (((false, wants), (lead, days))) G4 (Nat.le_of_ble_eq_true rfl) (a_cons (d_tuple (d_name Has.z) Bl.tuple) (a_cons (d_name (Has.s Has.z)) (a_cons (d_name (Has.s (Has.s (Has.s (Has.s Has.z))))) a_nil))) rfl h1) (a_cons (d_name (Has.s (Has.s (Has.s (Has.s (Has.s (Has.s Has.z))))))) a_nil)) rfl trivial) rfl
end
end K27

set_option maxHeartbeats 1000000
/-! K27o: the law's own scheme and costs, in plain Lean. -/
namespace K27
open ZZ (tab tab_len tab_succ tab_get tab_get' tab_ext tab_set)
/-! ### the scheme of a level -/
def cm (wants : List Int) (lead : Nat) (height : Int) (d : Nat) : Int := if d = 0 then height else if lead ≤ d then w wants (d - lead) else 0
def rs (wants : List Int) (lead : Nat) (height : Int) : Nat → Int
  | 0 => wants.sum
  | d + 1 => rs wants lead height d - min (rs wants lead height d) (cm wants lead height d)
def sm (wants : List Int) (lead : Nat) (height : Int) (d : Nat) : Int := min (rs wants lead height d) (cm wants lead height d)
def scl (wants : List Int) (lead : Nat) (height : Int) : List Int := tab (sm wants lead height) wants.length
theorem scl_len {wants : List Int} {lead : Nat} {height : Int} : (scl wants lead height).length = wants.length := tab_len
theorem scl_w {wants : List Int} {lead : Nat} {height : Int} {d : Nat} (h : d < wants.length) : w (scl wants lead height) d = sm wants lead height d := w_at (tab_get h)
section
variable {wants : List Int} {lead : Nat} {height : Int} (hw : ∀ x ∈ wants, 0 ≤ x ∧ x ≤ 999) (hh : 0 ≤ height)
include hw hh
theorem cm_nn {d : Nat} : 0 ≤ cm wants lead height d := by
  unfold cm
  have := w_in (k := d - lead) hw
  split
  · exact hh
  · split <;> omega
omit hh in
theorem sum_nn : 0 ≤ wants.sum := by
  have e : wants.sum = pre wants wants.length := by unfold pre; rw [List.take_length]
  rw [e]
  exact (pre_in hw).1
theorem rs_eq : ∀ {k : Nat}, rs wants lead height k = wants.sum - tot (sm wants lead height) k ∧ 0 ≤ rs wants lead height k
  | 0 => by have := sum_nn hw; simp only [rs, tot]; omega
  | k + 1 => by
    obtain ⟨h1, h2⟩ := rs_eq (k := k)
    have := cm_nn (lead := lead) hw hh (d := k)
    simp only [rs, tot, sm] at *
    omega
theorem sm_nn {d : Nat} : 0 ≤ sm wants lead height d := by
  have h1 := (rs_eq (lead := lead) hw hh (k := d)).2
  have h2 := cm_nn (lead := lead) hw hh (d := d)
  unfold sm
  omega
theorem sm_tot : ∀ {k : Nat}, tot (sm wants lead height) k = min wants.sum (tot (cm wants lead height) k)
  | 0 => by have := sum_nn hw; simp only [tot]; omega
  | k + 1 => by
    have ih := sm_tot (k := k)
    have h1 := (rs_eq (lead := lead) hw hh (k := k)).1
    have h2 := cm_nn (lead := lead) hw hh (d := k)
    have e : sm wants lead height k = min (rs wants lead height k) (cm wants lead height k) := rfl
    simp only [tot]
    rw [e, h1]
    omega
omit hw hh in
theorem cm_tot (hl : 1 ≤ lead) : ∀ {d : Nat}, d < wants.length → tot (cm wants lead height) (d + 1) = height + pre wants (d + 1 - lead)
  | 0, h => by
    have e : 0 + 1 - lead = 0 := by omega
    rw [e, pre_zero]
    simp [tot, cm]
  | d + 1, h => by
    have ih := cm_tot hl (d := d) (by omega)
    have e : tot (cm wants lead height) (d + 1 + 1) = tot (cm wants lead height) (d + 1) + cm wants lead height (d + 1) := rfl
    rw [e, ih]
    unfold cm
    rw [if_neg (by omega)]
    by_cases q : lead ≤ d + 1
    · rw [if_pos q, show d + 1 + 1 - lead = (d + 1 - lead) + 1 by omega, pre_succ (by omega)]
      omega
    · rw [if_neg q, show d + 1 + 1 - lead = 0 by omega, show d + 1 - lead = 0 by omega]
      omega
omit hw hh in
theorem df_tot {sc : List Int} : ∀ {k : Nat}, k ≤ wants.length → tot (df wants sc) k = tot (w sc) k - pre wants k
  | 0, _ => by rw [pre_zero]; simp [tot]
  | k + 1, h => by
    have ih := df_tot (sc := sc) (k := k) (by omega)
    rw [pre_succ (by omega)]
    simp only [tot, df] at *
    omega
/-- what lies there after day d -/
theorem lies (hl : 1 ≤ lead) {d : Nat} (hd : d < wants.length) : tot (df wants (scl wants lead height)) (d + 1) = min wants.sum (height + pre wants (d + 1 - lead)) - pre wants (d + 1) := by
  rw [df_tot hd, tot_ext (g := sm wants lead height) (fun i hi => scl_w (by omega)), sm_tot hw hh, cm_tot hl hd]
theorem cov_eq (hl : 1 ≤ lead) (hn : 1 ≤ wants.length) {top : Int} (ht : top ∈ tab (win wants lead) wants.length) (ht2 : ∀ y ∈ tab (win wants lead) wants.length, y ≤ top) : cov wants (scl wants lead height) = decide (top ≤ height) := by
  have et : wants.sum = pre wants wants.length := by unfold pre; rw [List.take_length]
  have up : ∀ d, d ≤ wants.length → pre wants d ≤ wants.sum := fun d hd => by
    have := pre_mono hw (j := d) (d := wants.length - d)
    rw [show d + (wants.length - d) = wants.length by omega] at this
    omega
  have hwin : ∀ d, d < wants.length → win wants lead d ≤ top := fun d hd => ht2 _ (tab_mem.mpr ⟨d, hd, rfl⟩)
  have hne : nts wants (scl wants lead height) ≠ [] := tab_ne hn
  unfold cov
  rw [Bool.eq_iff_iff, Bool.and_eq_true, decide_eq_true_eq, decide_eq_true_eq, decide_eq_true_eq]
  constructor
  · rintro ⟨h1, h2⟩
    obtain ⟨d, hd, rfl⟩ := tab_mem.mp ht
    have h3 := mnl_le (l := nts wants (scl wants lead height)) (tab_mem.mpr ⟨d, hd, rfl⟩)
    have h3 : mnl (nts wants (scl wants lead height)) ≤ tot (df wants (scl wants lead height)) (d + 1) := h3
    rw [lies hw hh hl hd] at h3
    rw [win_eq hl]
    omega
  · intro h
    refine ⟨?_, ?_⟩
    · obtain ⟨d, hd, e⟩ := tab_mem.mp (mnl_mem hne)
      have e : mnl (nts wants (scl wants lead height)) = tot (df wants (scl wants lead height)) (d + 1) := e
      rw [e, lies hw hh hl hd]
      have h1 := hwin d hd
      have h2 := up (d + 1) (by omega)
      rw [win_eq hl] at h1
      omega
    · obtain ⟨k, hk⟩ : ∃ k, wants.length = k + 1 := ⟨wants.length - 1, by omega⟩
      have h1 := hwin k (by omega)
      rw [win_eq hl] at h1
      have e : tot (df wants (scl wants lead height)) wants.length = tot (df wants (scl wants lead height)) (k + 1) := by rw [hk]
      rw [e, lies hw hh hl (by omega)]
      rw [hk] at et
      omega
end
/-! ### a scheme's cost by days -/
def dcost (wants prices : List Int) (night : Int) (sc : List Int) (i : Nat) : Int := w prices i * w sc i + night * tot (df wants sc) (i + 1)
theorem dys_len {sc : List Int} : ∀ {n : Nat}, ((((List.range n).filter fun i => decide (0 < w sc i)).length : Nat) : Int) = tot (fun i => if 0 < w sc i then 1 else 0) n
  | 0 => rfl
  | n + 1 => by
    rw [List.range_succ, List.filter_append, List.length_append]
    have ih := dys_len (sc := sc) (n := n)
    simp only [tot]
    rw [← ih]
    by_cases q : 0 < w sc n
    · simp [List.filter, q]
    · simp [List.filter, q]
theorem tot_add {f g : Nat → Int} : ∀ {n : Nat}, tot (fun i => f i + g i) n = tot f n + tot g n
  | 0 => rfl
  | n + 1 => by simp only [tot]; rw [tot_add (n := n)]; omega
theorem tot_mul {f : Nat → Int} {c : Int} : ∀ {n : Nat}, tot (fun i => c * f i) n = c * tot f n
  | 0 => by simp [tot]
  | n + 1 => by simp only [tot]; rw [tot_mul (n := n), Int.mul_add]
theorem scc_eq {wants prices sc : List Int} {fixed night : Int} (hl : sc.length = wants.length) (h0 : ∀ i, i < wants.length → 0 ≤ w sc i) : scc wants prices fixed night sc = fixed * ((dys sc).length : Int) + tot (dcost wants prices night sc) wants.length := by
  have e1 : ((dys sc).length : Int) = tot (fun i => if 0 < w sc i then 1 else 0) wants.length := by
    unfold dys
    rw [List.length_map, dys_len, hl]
  have e2 : tot (fun i => oc (w sc i) (w prices i) fixed) wants.length = tot (fun i => fixed * (if 0 < w sc i then 1 else 0) + w prices i * w sc i) wants.length := tot_ext fun i hi => by
    have := h0 i hi
    unfold oc
    by_cases q : w sc i = 0
    · rw [if_pos q, q]; simp
    · rw [if_neg q, if_pos (by omega), Int.mul_comm (w prices i)]
      omega
  unfold scc
  rw [e1, e2, tot_add, tot_mul]
  unfold dcost
  rw [tot_add, tot_mul]
  unfold nts
  rw [sum_tab]
  omega
/-! ### the law's least costs -/
/-- pieces and nights of the last b days before k -/
def cnt (wants : List Int) (k b : Nat) : Int := pre wants k - pre wants (k - b)
theorem lyi_step {wants : List Int} {k b : Nat} (hb : b < k) (hk : k ≤ wants.length) : lyi wants (k - (b + 1)) k = lyi wants (k - b) k + cnt wants k b := by
  have key : ∀ (m j : Nat), j + 1 + m ≤ wants.length → tot (fun i => (i : Int) * w wants (j + i)) (m + 1) = tot (fun i => (i : Int) * w wants (j + 1 + i)) m + (pre wants (j + 1 + m) - pre wants (j + 1)) := by
    intro m
    induction m with
    | zero => intro j hj; simp [tot]
    | succ m ih =>
      intro j hj
      have h := ih j (by omega)
      have e1 : tot (fun i => (i : Int) * w wants (j + i)) (m + 1 + 1) = tot (fun i => (i : Int) * w wants (j + i)) (m + 1) + ((m + 1 : Nat) : Int) * w wants (j + (m + 1)) := rfl
      have e2 : tot (fun i => (i : Int) * w wants (j + 1 + i)) (m + 1) = tot (fun i => (i : Int) * w wants (j + 1 + i)) m + (m : Int) * w wants (j + 1 + m) := rfl
      have e3 : pre wants (j + 1 + (m + 1)) = pre wants (j + 1 + m) + w wants (j + 1 + m) := pre_succ (k := j + 1 + m) (by omega)
      rw [e1, e2, e3, h, show j + (m + 1) = j + 1 + m by omega]
      have e4 : ((m + 1 : Nat) : Int) * w wants (j + 1 + m) = (m : Int) * w wants (j + 1 + m) + w wants (j + 1 + m) := by
        rw [show ((m + 1 : Nat) : Int) = (m : Int) + 1 by omega, Int.add_mul, Int.one_mul]
      omega
  obtain ⟨j, rfl⟩ : ∃ j, k = j + 1 + b := ⟨k - b - 1, by omega⟩
  have h := key b j (by omega)
  unfold lyi cnt
  rw [show j + 1 + b - (b + 1) = j by omega, show j + 1 + b - b = j + 1 by omega, show j + 1 + b - j = b + 1 by omega, show j + 1 + b - (j + 1) = b by omega]
  exact h
theorem cnt_step {wants : List Int} {k b : Nat} (hb : b < k) (hk : k ≤ wants.length) : cnt wants k (b + 1) = cnt wants k b + w wants (k - (b + 1)) := by
  unfold cnt
  have := pre_succ (l := wants) (k := k - (b + 1)) (by omega)
  rw [show k - (b + 1) + 1 = k - b by omega] at this
  omega
/-- the least over the last b beginnings -/
def bwy (wants prices : List Int) (fixed night : Int) (k : Nat) : Nat → Int
  | 0 => -1
  | b + 1 =>
    if bwy wants prices fixed night k b < 0 ∨ C wants prices fixed night (k - (b + 1)) + spn wants prices fixed night (k - (b + 1)) k < bwy wants prices fixed night k b
    then C wants prices fixed night (k - (b + 1)) + spn wants prices fixed night (k - (b + 1)) k else bwy wants prices fixed night k b
section
variable {wants prices : List Int} {fixed night : Int} (hw : ∀ x ∈ wants, 0 ≤ x ∧ x ≤ 999) (hp : ∀ x ∈ prices, 0 ≤ x ∧ x ≤ 999) (hf : 0 ≤ fixed) (hn : 0 ≤ night)
include hw hp hf hn
theorem spn_nn {j k : Nat} (h : j ≤ k) : 0 ≤ spn wants prices fixed night j k := by
  have h1 := pre_mono hw (j := j) (d := k - j)
  rw [show j + (k - j) = k by omega] at h1
  have h2 := w_in (k := j) hp
  have h3 : 0 ≤ lyi wants j k := by
    unfold lyi
    generalize k - j = m
    induction m with
    | zero => exact Int.le_refl _
    | succ m ih =>
      have := Int.mul_nonneg (show (0 : Int) ≤ m by omega) (w_in (k := j + m) hw).1
      simp only [tot]
      omega
  have h4 := Int.mul_nonneg hn h3
  unfold spn oc
  split
  · omega
  · have := Int.mul_nonneg (show 0 ≤ pre wants k - pre wants j by omega) h2.1
    omega
theorem C_nn : ∀ k, 0 ≤ C wants prices fixed night k := by
  intro k
  induction k using Nat.strongRecOn with
  | ind k ih =>
    cases k with
    | zero => rw [C_zero]; omega
    | succ k =>
      rw [C_succ]
      obtain ⟨j, hj, e⟩ := tab_mem.mp (mnl_mem (l := tab (fun j => C wants prices fixed night j + spn wants prices fixed night j (k + 1)) (k + 1)) (tab_ne (by omega)))
      rw [e]
      have h1 := ih j (by omega)
      have h2 := spn_nn hw hp hf hn (j := j) (k := k + 1) (by omega)
      omega
theorem bwy_is {k : Nat} : ∀ {b : Nat}, b ≤ k → (b = 0 ∧ bwy wants prices fixed night k b = -1) ∨ (0 ≤ bwy wants prices fixed night k b ∧ (∃ j, k - b ≤ j ∧ j < k ∧ bwy wants prices fixed night k b = C wants prices fixed night j + spn wants prices fixed night j k) ∧ ∀ j, k - b ≤ j → j < k → bwy wants prices fixed night k b ≤ C wants prices fixed night j + spn wants prices fixed night j k)
  | 0, _ => .inl ⟨rfl, rfl⟩
  | b + 1, h => by
    have nn := C_nn hw hp hf hn (k - (b + 1))
    have sn := spn_nn hw hp hf hn (j := k - (b + 1)) (k := k) (by omega)
    refine .inr ?_
    conv => congr <;> (try unfold bwy)
    rcases bwy_is (k := k) (b := b) (by omega) with ⟨rfl, e⟩ | ⟨h1, ⟨j, j1, j2, j3⟩, h3⟩
    · rw [if_pos (Or.inl (by omega))]
      refine ⟨by omega, ⟨k - (0 + 1), by omega, by omega, rfl⟩, fun j q1 q2 => ?_⟩
      rw [show j = k - (0 + 1) by omega]
      omega
    · by_cases q : C wants prices fixed night (k - (b + 1)) + spn wants prices fixed night (k - (b + 1)) k < bwy wants prices fixed night k b
      · rw [if_pos (Or.inr q)]
        refine ⟨by omega, ⟨k - (b + 1), by omega, by omega, rfl⟩, fun j q1 q2 => ?_⟩
        rcases Nat.lt_or_ge j (k - b) with z | z
        · rw [show j = k - (b + 1) by omega]
          omega
        · have := h3 j z q2; omega
      · rw [if_neg (by omega)]
        refine ⟨h1, ⟨j, by omega, j2, j3⟩, fun j q1 q2 => ?_⟩
        rcases Nat.lt_or_ge j (k - b) with z | z
        · rw [show j = k - (b + 1) by omega]
          omega
        · exact h3 j z q2
theorem bwy_C {k : Nat} : bwy wants prices fixed night (k + 1) (k + 1) = C wants prices fixed night (k + 1) := by
  rcases bwy_is hw hp hf hn (k := k + 1) (b := k + 1) (Nat.le_refl _) with ⟨q, _⟩ | ⟨h1, ⟨j, _, j2, j3⟩, h3⟩
  · exact absurd q (by omega)
  · rw [C_succ]
    refine (mnl_eq (tab_mem.mpr ⟨j, j2, j3⟩) fun y hy => ?_).symm
    obtain ⟨i, hi, rfl⟩ := tab_mem.mp hy
    exact h3 i (by omega) hi
end
end K27

set_option maxHeartbeats 2000000
/-! K27j: the law on orders. -/
namespace K27
open PySem PySem.Spec PyProof.Rows L2 ZZ
open Evl (Ex)
local macro_rules | `(tactic| walk_at "has") => `(tactic| (with_reducible first | exact Has.z | exact Has.s Has.z | exact Has.s (Has.s Has.z) | exact Has.s (Has.s (Has.s Has.z)) | exact Has.s (Has.s (Has.s (Has.s Has.z))) | exact Has.s (Has.s (Has.s (Has.s (Has.s Has.z)))) | exact Has.s (Has.s (Has.s (Has.s (Has.s (Has.s Has.z))))) | exact Has.s (Has.s (Has.s (Has.s (Has.s (Has.s (Has.s Has.z))))))))
local macro_rules | `(tactic| walk_at "put") => `(tactic| (with_reducible first | exact Put.z | exact Put.s Put.z | exact Put.s (Put.s Put.z) | exact Put.s (Put.s (Put.s Put.z)) | exact Put.s (Put.s (Put.s (Put.s Put.z))) | exact Put.s (Put.s (Put.s (Put.s (Put.s Put.z)))) | exact Put.s (Put.s (Put.s (Put.s (Put.s (Put.s Put.z))))) | exact Put.s (Put.s (Put.s (Put.s (Put.s (Put.s (Put.s Put.z))))))))
local macro_rules | `(tactic| walk_at "swp") => `(tactic| (with_reducible first | exact Swp.z | exact Swp.s Swp.z | exact Swp.s (Swp.s Swp.z) | exact Swp.s (Swp.s (Swp.s Swp.z)) | exact Swp.s (Swp.s (Swp.s (Swp.s Swp.z))) | exact Swp.s (Swp.s (Swp.s (Swp.s (Swp.s Swp.z)))) | exact Swp.s (Swp.s (Swp.s (Swp.s (Swp.s (Swp.s Swp.z))))) | exact Swp.s (Swp.s (Swp.s (Swp.s (Swp.s (Swp.s (Swp.s Swp.z))))))))
local macro_rules | `(tactic| walk_at "tak") => `(tactic| (with_reducible first | exact Tak.z | exact Tak.s Tak.z | exact Tak.s (Tak.s Tak.z) | exact Tak.s (Tak.s (Tak.s Tak.z)) | exact Tak.s (Tak.s (Tak.s (Tak.s Tak.z))) | exact Tak.s (Tak.s (Tak.s (Tak.s (Tak.s Tak.z)))) | exact Tak.s (Tak.s (Tak.s (Tak.s (Tak.s (Tak.s Tak.z))))) | exact Tak.s (Tak.s (Tak.s (Tak.s (Tak.s (Tak.s (Tak.s Tak.z))))))))
local macro_rules | `(tactic| walk_at "hold") => `(tactic| (with_reducible first | exact Hold.z | exact Hold.s Hold.z | exact Hold.s (Hold.s Hold.z) | exact Hold.s (Hold.s (Hold.s Hold.z)) | exact Hold.s (Hold.s (Hold.s (Hold.s Hold.z))) | exact Hold.s (Hold.s (Hold.s (Hold.s (Hold.s Hold.z)))) | exact Hold.s (Hold.s (Hold.s (Hold.s (Hold.s (Hold.s Hold.z))))) | exact Hold.s (Hold.s (Hold.s (Hold.s (Hold.s (Hold.s (Hold.s Hold.z))))))))
local macro_rules | `(tactic| walk_at "upe") => `(tactic| (with_reducible first | exact UpE.z | exact UpE.s UpE.z | exact UpE.s (UpE.s UpE.z) | exact UpE.s (UpE.s (UpE.s UpE.z)) | exact UpE.s (UpE.s (UpE.s (UpE.s UpE.z))) | exact UpE.s (UpE.s (UpE.s (UpE.s (UpE.s UpE.z)))) | exact UpE.s (UpE.s (UpE.s (UpE.s (UpE.s (UpE.s UpE.z))))) | exact UpE.s (UpE.s (UpE.s (UpE.s (UpE.s (UpE.s (UpE.s UpE.z))))))))
local macro_rules | `(tactic| walk_at "fg") => `(tactic| (repeat (first | exact Fg.nil | (with_reducible refine Fg.keep rfl ?_) | (with_reducible refine Fg.drop ?_))))
local macro_rules | `(tactic| walk_at "nonb") => `(tactic| first | exact nonb_I | exact nonb_No | exact nonb_Bo | exact nonb_S | exact nonb_seq | exact nonb_tup)
local macro_rules | `(tactic| walk_at "istb") => `(tactic| first | exact istb_sc | exact istb_seq | exact istb_tup)

section
variable {M : Mo}
def m1 : Ct (List Int × (Nat × Int)) := { As := fun g => [L I g.1, I (g.2.1 : Int), I g.2.2], pre := fun g => g.1.length ≤ 100 ∧ 1 ≤ g.2.1, S := fun g => L I (scl g.1 g.2.1 g.2.2) }
theorem okm1 (Bl : Blt M) (P : Pr M "_law_scheme" (stm 46) ["wants", "lead", "height"]) : Gd M 1 "_law_scheme" ["wants", "lead", "height"] m1 := by
  refine P.gd sc__law_scheme (by intro _; rfl) fun X B0 F0 D g hp hR hN => ?_
  obtain ⟨wants, lead, height⟩ := g
  dsimp only [mkΓ, m1] at hp hR ⊢
  obtain ⟨h1, h2⟩ := hp
  refine ds_own0 (n_lstQ (I) ((tab (sm wants lead height) 0)) a_nil) (Put.s (Put.s (Put.s Put.z))) fun l_scheme => ⟨_, (Put.s (Put.s (Put.s Put.z))), ?_⟩
  refine ds_asg (d_sumB (d_name Has.z) Bl.sum) (Put.s (Put.s (Put.s (Put.s Put.z)))) ?_
  refine ds_forF (fun i => ([("wants", some (L I wants)), ("lead", some (I (lead : Int))), ("height", some (I height)), ("scheme", some (At l_scheme)), ("rest", some (I (rs wants lead height i))), ("day", none), ("comes", none)] : En)) (fun i => [(l_scheme, Cl I (tab (sm wants lead height) i))]) (i_rng1 (d_len (d_name Has.z) Bl.len) Bl.range) (by walk_at "fg") rfl ?_ ?_
  · rintro B1 hB1 d _ hd rfl
    have hd : d < wants.length := by omega
    refine ⟨_, _, (g_name (Put.s (Put.s (Put.s (Put.s (Put.s Put.z)))))), ?_⟩
    refine ds_asg d_int (Put.s (Put.s (Put.s (Put.s (Put.s (Put.s Put.z)))))) ?_
    refine ds_ifJ ([("wants", some (L I wants)), ("lead", some (I (lead : Int))), ("height", some (I height)), ("scheme", some (At l_scheme)), ("rest", some (I (rs wants lead height d))), ("day", some (I (d : Int))), ("comes", some (I (cm wants lead height d)))] : En) [(l_scheme, Cl I (tab (sm wants lead height) d))] rfl (t_eqI (d_name (Has.s (Has.s (Has.s (Has.s (Has.s Has.z)))))) d_int) ?_ ?_ ?_
    · intro h
      have h : (d : Int) = 0 := of_decide_eq_true h.symm
      refine ds_asg (d_name (Has.s (Has.s Has.z))) (Put.s (Put.s (Put.s (Put.s (Put.s (Put.s Put.z)))))) ?_
      exact ds_meet (by unfold cm; rw [if_pos (by omega)]; walk_at "fg") rfl rfl rfl
    · intro h
      have h : ¬ (d : Int) = 0 := of_decide_eq_false h.symm
      refine ds_if (t_ge (d_name (Has.s (Has.s (Has.s (Has.s (Has.s Has.z)))))) (d_name (Has.s Has.z))) ?_ ?_
      · intro h3
        have h3 : (lead : Int) ≤ d := of_decide_eq_true h3.symm
        refine ds_asg (d_ix (d_name Has.z) (d_sub (d_name (Has.s (Has.s (Has.s (Has.s (Has.s Has.z)))))) (d_name (Has.s Has.z))) (atI_of (j := d - lead) (by omega) (at_w (by omega)))) (Put.s (Put.s (Put.s (Put.s (Put.s (Put.s Put.z)))))) ?_
        refine ds_next ?_
        exact ds_meet (by unfold cm; rw [if_neg (by omega), if_pos (by omega)]; walk_at "fg") rfl rfl rfl
      · intro h3
        have h3 : ¬ (lead : Int) ≤ d := of_decide_eq_false h3.symm
        refine ds_next ?_
        exact ds_meet (by unfold cm; rw [if_neg (by omega), if_neg (by omega)]; walk_at "fg") rfl rfl rfl
    · refine ds_app (Rs := I) (y := sm wants lead height d) (d_name (Has.s (Has.s (Has.s Has.z)))) (d_min2 (d_intI (d_name (Has.s (Has.s (Has.s (Has.s Has.z))))) Bl.int) (d_intI (d_name (Has.s (Has.s (Has.s (Has.s (Has.s (Has.s Has.z))))))) Bl.int) Bl.min) (by walk_at "hold") (by walk_at "swp") (by rw [tab_len]; show _ < 16777216; omega) ?_
      rw [← tab_succ]
      refine ds_asg (d_sub (d_name (Has.s (Has.s (Has.s (Has.s Has.z))))) (d_ixTO (d_name (Has.s (Has.s (Has.s Has.z)))) (d_name (Has.s (Has.s (Has.s (Has.s (Has.s Has.z)))))) (by walk_at "hold") d rfl (Nat.lt_succ_self d))) (Put.s (Put.s (Put.s (Put.s Put.z)))) ?_
      exact ds_turnF (by walk_at "fg") rfl rfl rfl
  · rw [show ((wants.length : Int)).toNat = wants.length by omega]
    refine ds_freeze (Upg.s (Upg.s (Upg.s Upg.z))) (by walk_at "tak") ?_
    exact ds_ret0 hR (d_name (Has.s (Has.s (Has.s Has.z))))
theorem lyi_zero {wants : List Int} (hw : ∀ x ∈ wants, 0 ≤ x ∧ x ≤ 999) {k : Nat} (hk : k ≤ wants.length) : ∀ {b : Nat}, b ≤ k → cnt wants k b ≤ 0 → lyi wants (k - b) k = 0
  | 0, _, _ => by unfold lyi; rw [Nat.sub_zero, Nat.sub_self]; rfl
  | b + 1, hb, h => by
    have c1 := cnt_step (wants := wants) (k := k) (b := b) (by omega) hk
    have c2 := w_in (k := k - (b + 1)) hw
    have c3 : 0 ≤ cnt wants k b := by
      unfold cnt
      have := pre_mono hw (j := k - b) (d := b)
      rw [show k - b + b = k by omega] at this
      omega
    have ih := lyi_zero hw hk (b := b) (by omega) (by omega)
    rw [lyi_step (by omega) hk, ih]
    omega
def m2 : Ct ((List Int × List Int) × (Int × Int)) := { As := fun g => [L I g.1.1, L I g.1.2, I g.2.1, I g.2.2], pre := fun g => Oks g.1.1 g.1.2 g.2.2 ∧ 0 ≤ g.2.1, S := fun g => L I (tab (C g.1.1 g.1.2 g.2.1 g.2.2) (g.1.1.length + 1)) }
theorem okm2 (Bl : Blt M) (P : Pr M "_law_costs" (stm 47) ["wants", "prices", "fixed", "night"]) : Gd M 1 "_law_costs" ["wants", "prices", "fixed", "night"] m2 := by
  refine P.gd sc__law_costs (by intro _; rfl) fun X B0 F0 D g hp hR hN => ?_
  obtain ⟨⟨wants, prices⟩, fixed, night⟩ := g
  dsimp only [mkΓ, m2] at hp hR ⊢
  obtain ⟨⟨⟨o1, o2⟩, ⟨o3, o4⟩, o5, o6⟩, hf⟩ := hp
  refine ds_own0 (n_lstQ (I) ((tab (C wants prices fixed night) 1)) (a_cons d_int a_nil)) (Put.s (Put.s (Put.s (Put.s Put.z)))) fun l_least => ⟨_, (Put.s (Put.s (Put.s (Put.s Put.z)))), ?_⟩
  refine ds_forF (fun i => ([("wants", some (L I wants)), ("prices", some (L I prices)), ("fixed", some (I fixed)), ("night", some (I night)), ("least", some (At l_least)), ("high", none), ("best", none), ("count", none), ("nights", none), ("back", none), ("low", none), ("cost", none)] : En)) (fun i => [(l_least, Cl I (tab (C wants prices fixed night) (i + 1)))]) (i_rng2 d_int (d_add (d_len (d_name Has.z) Bl.len) d_int) Bl.range) (by walk_at "fg") rfl ?_ ?_
  · rintro B1 hB1 i _ hi rfl
    have hi : i < wants.length := by omega
    refine ⟨_, _, (g_name (Put.s (Put.s (Put.s (Put.s (Put.s Put.z)))))), ?_⟩
    rw [show (1 : Int) + (i : Int) = ((i + 1 : Nat) : Int) by omega]
    refine ds_asg (d_neg d_int) (Put.s (Put.s (Put.s (Put.s (Put.s (Put.s Put.z)))))) ?_
    refine ds_asg d_int (Put.s (Put.s (Put.s (Put.s (Put.s (Put.s (Put.s Put.z))))))) ?_
    refine ds_asg d_int (Put.s (Put.s (Put.s (Put.s (Put.s (Put.s (Put.s (Put.s Put.z)))))))) ?_
    refine ds_forF (fun b => ([("wants", some (L I wants)), ("prices", some (L I prices)), ("fixed", some (I fixed)), ("night", some (I night)), ("least", some (At l_least)), ("high", some (I ((i + 1 : Nat) : Int))), ("best", some (I (bwy wants prices fixed night (i + 1) b))), ("count", some (I (cnt wants (i + 1) b))), ("nights", some (I (lyi wants (i + 1 - b) (i + 1)))), ("back", none), ("low", none), ("cost", none)] : En)) (fun b => [(l_least, Cl I (tab (C wants prices fixed night) (i + 1)))]) (i_rng2 d_int (d_add (d_name (Has.s (Has.s (Has.s (Has.s (Has.s Has.z)))))) d_int) Bl.range) (by
      have z1 : cnt wants (i + 1) 0 = 0 := by unfold cnt; rw [Nat.sub_zero]; omega
      have z2 : lyi wants (i + 1 - 0) (i + 1) = 0 := by unfold lyi; rw [Nat.sub_zero, Nat.sub_self]; rfl
      rw [z1, z2]
      walk_at "fg") rfl ?_ ?_
    · rintro B2 hB2 b _ hb rfl
      have hb : b < i + 1 := by omega
      refine ⟨_, _, (g_name (Put.s (Put.s (Put.s (Put.s (Put.s (Put.s (Put.s (Put.s (Put.s Put.z)))))))))), ?_⟩
      refine ds_asg (DE.eqI (j := ((i + 1 - (b + 1) : Nat) : Int)) (d_sub (d_name (Has.s (Has.s (Has.s (Has.s (Has.s Has.z)))))) (d_name (Has.s (Has.s (Has.s (Has.s (Has.s (Has.s (Has.s (Has.s (Has.s Has.z))))))))))) (by omega)) (Put.s (Put.s (Put.s (Put.s (Put.s (Put.s (Put.s (Put.s (Put.s (Put.s Put.z)))))))))) ?_
      have c1 := cnt_step (wants := wants) (k := i + 1) (b := b) hb (by omega)
      have c2 := lyi_step (wants := wants) (k := i + 1) (b := b) hb (by omega)
      have c3 := w_in (k := i + 1 - (b + 1)) o4
      refine ds_asg (DE.eqI (j := lyi wants (i + 1 - (b + 1)) (i + 1)) (d_add (d_name (Has.s (Has.s (Has.s (Has.s (Has.s (Has.s (Has.s (Has.s Has.z))))))))) (d_name (Has.s (Has.s (Has.s (Has.s (Has.s (Has.s (Has.s Has.z))))))))) c2.symm) (Put.s (Put.s (Put.s (Put.s (Put.s (Put.s (Put.s (Put.s Put.z)))))))) ?_
      refine ds_asg (DE.eqI (j := cnt wants (i + 1) (b + 1)) (d_add (d_name (Has.s (Has.s (Has.s (Has.s (Has.s (Has.s (Has.s Has.z)))))))) (d_ix (d_name Has.z) (d_name (Has.s (Has.s (Has.s (Has.s (Has.s (Has.s (Has.s (Has.s (Has.s (Has.s Has.z))))))))))) (atI_of (j := i + 1 - (b + 1)) rfl (at_w (by omega))))) c1.symm) (Put.s (Put.s (Put.s (Put.s (Put.s (Put.s (Put.s Put.z))))))) ?_
      refine ds_asg (d_ixTO (d_name (Has.s (Has.s (Has.s (Has.s Has.z))))) (d_name (Has.s (Has.s (Has.s (Has.s (Has.s (Has.s (Has.s (Has.s (Has.s (Has.s Has.z))))))))))) (by walk_at "hold") (i + 1 - (b + 1)) rfl (by omega)) (Put.s (Put.s (Put.s (Put.s (Put.s (Put.s (Put.s (Put.s (Put.s (Put.s (Put.s Put.z))))))))))) ?_
      have c4 : 0 ≤ cnt wants (i + 1) (b + 1) := by
        unfold cnt
        have := pre_mono o2 (j := i + 1 - (b + 1)) (d := b + 1)
        rw [show i + 1 - (b + 1) + (b + 1) = i + 1 by omega] at this
        omega
      refine ds_ifJ ([("wants", some (L I wants)), ("prices", some (L I prices)), ("fixed", some (I fixed)), ("night", some (I night)), ("least", some (At l_least)), ("high", some (I ((i + 1 : Nat) : Int))), ("best", some (I (bwy wants prices fixed night (i + 1) b))), ("count", some (I (cnt wants (i + 1) (b + 1)))), ("nights", some (I (lyi wants (i + 1 - (b + 1)) (i + 1)))), ("back", none), ("low", none), ("cost", some (I (C wants prices fixed night (i + 1 - (b + 1)) + spn wants prices fixed night (i + 1 - (b + 1)) (i + 1))))] : En) [(l_least, Cl I (tab (C wants prices fixed night) (i + 1)))] rfl (t_gt (d_name (Has.s (Has.s (Has.s (Has.s (Has.s (Has.s (Has.s Has.z)))))))) d_int) ?_ ?_ ?_
      · intro h
        have h : 0 < cnt wants (i + 1) (b + 1) := of_decide_eq_true h.symm
        refine ds_asg (DE.eqI (j := C wants prices fixed night (i + 1 - (b + 1)) + spn wants prices fixed night (i + 1 - (b + 1)) (i + 1)) (d_add (d_add (d_add (d_name (Has.s (Has.s (Has.s (Has.s (Has.s (Has.s (Has.s (Has.s (Has.s (Has.s (Has.s Has.z)))))))))))) (d_name (Has.s (Has.s Has.z)))) (d_mul (d_ix (d_name (Has.s Has.z)) (d_name (Has.s (Has.s (Has.s (Has.s (Has.s (Has.s (Has.s (Has.s (Has.s (Has.s Has.z))))))))))) (atI_of (j := i + 1 - (b + 1)) rfl (at_w (by omega)))) (d_name (Has.s (Has.s (Has.s (Has.s (Has.s (Has.s (Has.s Has.z)))))))) (Or.inl ⟨by omega, by omega⟩))) (d_mul (d_name (Has.s (Has.s (Has.s Has.z)))) (d_name (Has.s (Has.s (Has.s (Has.s (Has.s (Has.s (Has.s (Has.s Has.z))))))))) (Or.inl ⟨by omega, by omega⟩))) ?_) (Put.s (Put.s (Put.s (Put.s (Put.s (Put.s (Put.s (Put.s (Put.s (Put.s (Put.s Put.z))))))))))) ?_
        · have e : pre wants (i + 1) - pre wants (i + 1 - (b + 1)) = cnt wants (i + 1) (b + 1) := rfl
          unfold spn oc
          rw [e, if_neg (by omega), Int.mul_comm (cnt wants (i + 1) (b + 1))]
          omega
        · exact ds_meet (by walk_at "fg") rfl rfl rfl
      · intro h
        have h : ¬ 0 < cnt wants (i + 1) (b + 1) := of_decide_eq_false h.symm
        have z := lyi_zero o2 (k := i + 1) (by omega) (b := b + 1) (by omega) (by omega)
        have e : pre wants (i + 1) - pre wants (i + 1 - (b + 1)) = cnt wants (i + 1) (b + 1) := rfl
        have e2 : C wants prices fixed night (i + 1 - (b + 1)) + spn wants prices fixed night (i + 1 - (b + 1)) (i + 1) = C wants prices fixed night (i + 1 - (b + 1)) := by
          unfold spn oc
          rw [e, if_pos (by omega), z]
          omega
        exact ds_meet (by rw [e2]; walk_at "fg") rfl rfl rfl
      · refine ds_if (t_w (v_or (t_lt (d_name (Has.s (Has.s (Has.s (Has.s (Has.s (Has.s Has.z))))))) d_int) (fun _ => v_or1 (t_lt (d_name (Has.s (Has.s (Has.s (Has.s (Has.s (Has.s (Has.s (Has.s (Has.s (Has.s (Has.s Has.z)))))))))))) (d_name (Has.s (Has.s (Has.s (Has.s (Has.s (Has.s Has.z))))))))))) ?_ ?_
        · intro h
          have h := h.symm
          rw [Bool.or_eq_true, decide_eq_true_eq, decide_eq_true_eq] at h
          refine ds_asg (d_name (Has.s (Has.s (Has.s (Has.s (Has.s (Has.s (Has.s (Has.s (Has.s (Has.s (Has.s Has.z)))))))))))) (Put.s (Put.s (Put.s (Put.s (Put.s (Put.s Put.z)))))) ?_
          refine ds_next ?_
          have e : bwy wants prices fixed night (i + 1) (b + 1) = C wants prices fixed night (i + 1 - (b + 1)) + spn wants prices fixed night (i + 1 - (b + 1)) (i + 1) := by
            conv => lhs; unfold bwy
            rw [if_pos h]
          exact ds_turnF (by rw [e]; walk_at "fg") rfl rfl rfl
        · intro h
          have h := h.symm
          rw [Bool.or_eq_false_iff, decide_eq_false_iff_not, decide_eq_false_iff_not] at h
          refine ds_next ?_
          have e : bwy wants prices fixed night (i + 1) (b + 1) = bwy wants prices fixed night (i + 1) b := by
            conv => lhs; unfold bwy
            rw [if_neg (fun z => z.elim h.1 h.2)]
          exact ds_turnF (by rw [e]; walk_at "fg") rfl rfl rfl
    · have e : ((((i + 1 : Nat) : Int) + 1) - 1).toNat = i + 1 := by omega
      rw [e]
      refine ds_app (d_name (Has.s (Has.s (Has.s (Has.s Has.z))))) (d_name (Has.s (Has.s (Has.s (Has.s (Has.s (Has.s Has.z))))))) (by walk_at "hold") (by walk_at "swp") (by rw [tab_len]; show _ < 16777216; omega) ?_
      exact ds_turnF (by walk_at "fg") (by rw [tab_succ (n := i + 1), bwy_C o2 o4 hf o5]) rfl rfl
  · rw [show ((wants.length : Int) + 1 - 1).toNat = wants.length by omega]
    refine ds_freeze (Upg.s (Upg.s (Upg.s (Upg.s Upg.z)))) (by walk_at "tak") ?_
    exact ds_ret0 hR (d_name (Has.s (Has.s (Has.s (Has.s Has.z)))))
def m3 : Ct ((List Int × List Int) × (Int × Int)) := { As := fun g => [L I g.1.1, L I g.1.2, I g.2.1, I g.2.2], pre := fun g => Oks g.1.1 g.1.2 g.2.2 ∧ 0 ≤ g.2.1, S := fun _ => Bo true }
theorem okm3 (Bl : Blt M) (P : Pr M "_law_costs_hold" (stm 48) ["wants", "prices", "fixed", "night"]) (M2 : Gd M 1 "_law_costs" ["wants", "prices", "fixed", "night"] m2) (E9 : Gd M 3 "least_costs" ["wants", "prices", "fixed", "night"] e9) (E10 : Gd M 4 "least_cost" ["wants", "prices", "fixed", "night"] e10)
    (GI : Gd M 1 "_law_same" ["told", "due"] sI) (GL : Gd M 2 "_law_same" ["told", "due"] sL) : Gd M 5 "_law_costs_hold" ["wants", "prices", "fixed", "night"] m3 := by
  refine P.gd sc__law_costs_hold (by intro _; rfl) fun X B0 F0 D g hp hR hN => ?_
  obtain ⟨⟨wants, prices⟩, fixed, night⟩ := g
  dsimp only [mkΓ, m3] at hp hR ⊢
  have o1 := hp.1.1.1
  refine ds_asg (d_call0 (t := m2) (((wants, prices), (fixed, night))) M2 (Nat.le_of_ble_eq_true rfl) (a_cons (d_name Has.z) (a_cons (d_name (Has.s Has.z)) (a_cons (d_name (Has.s (Has.s Has.z))) (a_cons (d_name (Has.s (Has.s (Has.s Has.z)))) a_nil)))) rfl hp) (Put.s (Put.s (Put.s (Put.s Put.z)))) ?_
  refine ds_asg (d_tup (a_cons (d_list (d_name Has.z) Bl.list) (a_cons (d_list (d_name (Has.s Has.z)) Bl.list) a_nil))) (Put.s (Put.s (Put.s (Put.s (Put.s Put.z))))) ?_
  refine ds_ifF (t_notD (t_val (d_call0 (t := sL) ((tab (C wants prices fixed night) (wants.length + 1))) GL (Nat.le_of_ble_eq_true rfl) (a_cons (d_call0 (t := e9) (((true, (wants, prices)), (fixed, night))) E9 (Nat.le_of_ble_eq_true rfl) (a_cons (d_ixU (d_name (Has.s (Has.s (Has.s (Has.s (Has.s Has.z)))))) d_int rfl) (a_cons (d_ixU (d_name (Has.s (Has.s (Has.s (Has.s (Has.s Has.z)))))) d_int rfl) (a_cons (d_name (Has.s (Has.s Has.z))) (a_cons (d_name (Has.s (Has.s (Has.s Has.z)))) a_nil)))) rfl hp.1) (a_cons (d_tuple (d_name (Has.s (Has.s (Has.s (Has.s Has.z))))) Bl.tuple) a_nil)) rfl (by show (tab (C wants prices fixed night) (wants.length + 1)).length ≤ 100000; rw [tab_len]; omega)))) rfl (ds_next ?_)
  refine ds_ifF (t_w (v_or (k := false) (l := false) (t_neInts (d_ixU (d_name (Has.s (Has.s (Has.s (Has.s (Has.s Has.z)))))) d_int rfl) (d_name Has.z)) (fun _ => v_or1 (t_neInts (d_ixU (d_name (Has.s (Has.s (Has.s (Has.s (Has.s Has.z)))))) d_int rfl) (d_name (Has.s Has.z)))))) rfl (ds_next ?_)
  exact ds_ret0 hR (d_call0 (t := sI) ((C wants prices fixed night wants.length)) GI (Nat.le_of_ble_eq_true rfl) (a_cons (d_call0 (t := e10) (((false, (wants, prices)), (fixed, night))) E10 (Nat.le_of_ble_eq_true rfl) (a_cons (d_tuple (d_name Has.z) Bl.tuple) (a_cons (d_tuple (d_name (Has.s Has.z)) Bl.tuple) (a_cons (d_name (Has.s (Has.s Has.z))) (a_cons (d_name (Has.s (Has.s (Has.s Has.z)))) a_nil)))) rfl hp.1) (a_cons (d_ix (d_name (Has.s (Has.s (Has.s (Has.s Has.z))))) (d_neg d_int) tab_last) a_nil)) rfl trivial) rfl
end
end K27

set_option maxHeartbeats 2000000
/-! K27k: the error raised and caught; the law on a scheme. -/
namespace K27
open PySem PySem.Spec PyProof.Rows L2 ZZ
open Evl (Ex)
local macro_rules | `(tactic| walk_at "has") => `(tactic| (with_reducible first | exact Has.z | exact Has.s Has.z | exact Has.s (Has.s Has.z) | exact Has.s (Has.s (Has.s Has.z)) | exact Has.s (Has.s (Has.s (Has.s Has.z))) | exact Has.s (Has.s (Has.s (Has.s (Has.s Has.z)))) | exact Has.s (Has.s (Has.s (Has.s (Has.s (Has.s Has.z))))) | exact Has.s (Has.s (Has.s (Has.s (Has.s (Has.s (Has.s Has.z))))))))
local macro_rules | `(tactic| walk_at "put") => `(tactic| (with_reducible first | exact Put.z | exact Put.s Put.z | exact Put.s (Put.s Put.z) | exact Put.s (Put.s (Put.s Put.z)) | exact Put.s (Put.s (Put.s (Put.s Put.z))) | exact Put.s (Put.s (Put.s (Put.s (Put.s Put.z)))) | exact Put.s (Put.s (Put.s (Put.s (Put.s (Put.s Put.z))))) | exact Put.s (Put.s (Put.s (Put.s (Put.s (Put.s (Put.s Put.z))))))))
local macro_rules | `(tactic| walk_at "swp") => `(tactic| (with_reducible first | exact Swp.z | exact Swp.s Swp.z | exact Swp.s (Swp.s Swp.z) | exact Swp.s (Swp.s (Swp.s Swp.z)) | exact Swp.s (Swp.s (Swp.s (Swp.s Swp.z))) | exact Swp.s (Swp.s (Swp.s (Swp.s (Swp.s Swp.z)))) | exact Swp.s (Swp.s (Swp.s (Swp.s (Swp.s (Swp.s Swp.z))))) | exact Swp.s (Swp.s (Swp.s (Swp.s (Swp.s (Swp.s (Swp.s Swp.z))))))))
local macro_rules | `(tactic| walk_at "tak") => `(tactic| (with_reducible first | exact Tak.z | exact Tak.s Tak.z | exact Tak.s (Tak.s Tak.z) | exact Tak.s (Tak.s (Tak.s Tak.z)) | exact Tak.s (Tak.s (Tak.s (Tak.s Tak.z))) | exact Tak.s (Tak.s (Tak.s (Tak.s (Tak.s Tak.z)))) | exact Tak.s (Tak.s (Tak.s (Tak.s (Tak.s (Tak.s Tak.z))))) | exact Tak.s (Tak.s (Tak.s (Tak.s (Tak.s (Tak.s (Tak.s Tak.z))))))))
local macro_rules | `(tactic| walk_at "hold") => `(tactic| (with_reducible first | exact Hold.z | exact Hold.s Hold.z | exact Hold.s (Hold.s Hold.z) | exact Hold.s (Hold.s (Hold.s Hold.z)) | exact Hold.s (Hold.s (Hold.s (Hold.s Hold.z))) | exact Hold.s (Hold.s (Hold.s (Hold.s (Hold.s Hold.z)))) | exact Hold.s (Hold.s (Hold.s (Hold.s (Hold.s (Hold.s Hold.z))))) | exact Hold.s (Hold.s (Hold.s (Hold.s (Hold.s (Hold.s (Hold.s Hold.z))))))))
local macro_rules | `(tactic| walk_at "upe") => `(tactic| (with_reducible first | exact UpE.z | exact UpE.s UpE.z | exact UpE.s (UpE.s UpE.z) | exact UpE.s (UpE.s (UpE.s UpE.z)) | exact UpE.s (UpE.s (UpE.s (UpE.s UpE.z))) | exact UpE.s (UpE.s (UpE.s (UpE.s (UpE.s UpE.z)))) | exact UpE.s (UpE.s (UpE.s (UpE.s (UpE.s (UpE.s UpE.z))))) | exact UpE.s (UpE.s (UpE.s (UpE.s (UpE.s (UpE.s (UpE.s UpE.z))))))))
local macro_rules | `(tactic| walk_at "fg") => `(tactic| (repeat (first | exact Fg.nil | (with_reducible refine Fg.keep rfl ?_) | (with_reducible refine Fg.drop ?_))))
local macro_rules | `(tactic| walk_at "nonb") => `(tactic| first | exact nonb_I | exact nonb_No | exact nonb_Bo | exact nonb_S | exact nonb_seq | exact nonb_tup)
local macro_rules | `(tactic| walk_at "istb") => `(tactic| first | exact istb_sc | exact istb_seq | exact istb_tup)

section
variable {M : Mo}
theorem _root_.ZZ.Pr.gdS {τ : Type} {t : Ct τ} {M : Mo} {k : Nat} {x : Str} {st : Stmt} {N ps : List Str} (P : Pr M x st ps) (S : FnScope N ps (defScope st)) (hlen : ∀ g, (t.As g).length = ps.length)
    (hbody : ∀ (X : Cx) (B0 F0 : Hp) (D : Ends) (g : τ), X.stack = X.env :: X.outer → X.env.frame = some X.env.locals → t.pre g → Rt B0 F0 D.rt (t.S g) (t.ω' g) → (∀ σ H, D.rt .non H → D.nx σ H) → DS ⟨M, defScope st, k, true, false⟩ X B0 F0 D (mkΓ N (t.As g)) (t.ω g) (defBody st)) : Gd M (k + 1) x ps t := by
  obtain ⟨f, fd, F, hm, hb⟩ := P
  refine ⟨f, fd, F.ok S (fun vs H Q E h => ?_) (fun cdv A outer s H vs Q E hr h => ?_), hm, F.kp, hb⟩
  · obtain ⟨g, _, _, _, h2, _⟩ := h
    rw [h2.len, hlen]
  · obtain ⟨g, F0, B, hp, hv, hO, hQ⟩ := h
    have hl : ps.length ≤ N.length := by have := congrArg List.length S.pre; rw [List.length_take] at this; omega
    refine ⟨_, pss_w, hbody _ B F0 _ g rfl rfl hp (fun v B' H' e1 O1 p1 => hQ v B' H' e1 O1 p1) (fun _ _ h => h) ?_ _ B H (Ex.refl B) (mk_env N _ vs hv (by rw [hlen]; exact hl)) hO⟩
    rw [mk_names]
    exact ⟨rfl, rfl, rfl, rfl, rfl, rfl, rfl, S.nd, fun _ => rfl, fun _ => hr, L2H.roomH_of hr, (fun h => nomatch h), fun _ _ _ => rfl, PassesOwn.never⟩
theorem oksIh (Bl : Blt M) (P : Pr M "_law_same" (stm 36) ["told", "due"]) : Gh M 1 "_law_same" ["told", "due"] sI := by
  refine P.gh sc__law_same (by intro _; rfl) fun X B0 F0 D g hp hR hN => ?_
  dsimp only [mkΓ, sI] at hp hR ⊢
  refine ds_ifF (t_isN (d_name (Has.s Has.z)) nonb_I) rfl (ds_next ?_)
  refine ds_ifF (t_isT (d_name (Has.s Has.z)) istb_sc) rfl (ds_next ?_)
  refine ds_ifF (t_isT (d_name (Has.s Has.z)) istb_sc) rfl (ds_next ?_)
  refine ds_ifF (t_val (d_isi (m := "tuple") (d_name (Has.s Has.z)) (fun K => ty_int) (by rfl) Bl.isinstance Bl.tuple (by decide +kernel))) rfl (ds_next ?_)
  refine ds_ifT (t_val (d_isi (m := "int") (d_name (Has.s Has.z)) (fun K => ty_int) (by rfl) Bl.isinstance Bl.int (by decide +kernel))) rfl ?_
  exact ds_ret0 hR (d_and (d_isi (m := "int") (d_name Has.z) (fun K => ty_int) (by rfl) Bl.isinstance Bl.int (by decide +kernel)) (fun _ => (d_and (d_not (d_isi (m := "bool") (d_name Has.z) (fun K => ty_int) (by rfl) Bl.isinstance Bl.bool (by decide +kernel))) (fun _ => (d_one (d_eqI (d_name Has.z) (d_name (Has.s Has.z)))))))) (by simp; exact congrArg Bo (by decide +kernel))
theorem oksLh (Bl : Blt M) (P : Pr M "_law_same" (stm 36) ["told", "due"]) (G : Gh M 1 "_law_same" ["told", "due"] sI) : Gh M 2 "_law_same" ["told", "due"] sL := by
  refine P.gh sc__law_same (by intro _; rfl) fun X B0 F0 D xs hp hR hN => ?_
  dsimp only [mkΓ, sL] at hp hR ⊢
  refine ds_ifF (t_isN (d_name (Has.s Has.z)) nonb_seq) rfl (ds_next ?_)
  refine ds_ifF (t_isT (d_name (Has.s Has.z)) istb_seq) rfl (ds_next ?_)
  refine ds_ifF (t_isT (d_name (Has.s Has.z)) istb_seq) rfl (ds_next ?_)
  refine ds_ifT (t_val (d_isi (m := "tuple") (d_name (Has.s Has.z)) (fun K => ty_tup) (by rfl) Bl.isinstance Bl.tuple (by decide +kernel))) rfl ?_
  refine ds_ifF (t_w (v_or (k := false) (l := false) (DT.eqB (t_notD (t_val (d_isi (m := "tuple") (d_name Has.z) (fun K => ty_tup) (by rfl) Bl.isinstance Bl.tuple (by decide +kernel)))) rfl) (fun _ => v_or1 (DT.eqB (t_neI (d_len (d_name Has.z) Bl.len) (d_len (d_name (Has.s Has.z)) Bl.len)) (by simp))))) rfl (ds_next ?_)
  refine ds_forFH rfl (fun i => ([("told", some (Sq false I xs)), ("due", some (Sq false I xs)), ("k", none)] : En)) (fun i => []) (i_rng1H (d_len (d_name (Has.s Has.z)) Bl.len) Bl.range) (by walk_at "fg") rfl ?_ ?_
  · rintro B1 hB1 i _ hi rfl
    have hR := hR.mono hB1
    have hi : i < xs.length := by omega
    obtain ⟨y, hy⟩ : ∃ y, xs[i]? = some y := ⟨_, List.getElem?_eq_getElem hi⟩
    refine ⟨_, _, (g_name (Put.s (Put.s Put.z))), ?_⟩
    refine ds_ifF (t_notD (t_val (d_callH (t := sI) rfl y G (Nat.le_refl _) (a_cons (d_ix (d_name Has.z) (d_name (Has.s (Has.s Has.z))) (atI_of rfl hy)) (a_cons (d_ix (d_name (Has.s Has.z)) (d_name (Has.s (Has.s Has.z))) (atI_of rfl hy)) a_nil)) rfl trivial))) rfl (ds_next ?_)
    exact ds_turnF (by walk_at "fg") rfl rfl rfl
  · exact ds_ret0 hR d_bool
def e6x : Ct ((Bool × (List Int × List Int)) × ((Int × Int) × List Int)) := { As := fun g => [Sq g.1.1 I g.1.2.1, Sq g.1.1 I g.1.2.2, I g.2.1.1, I g.2.1.2, Sq false I g.2.2], pre := fun g => g.1.2.1.length ≤ 100 ∧ g.2.2.length = g.1.2.1.length ∧ (∀ x ∈ g.2.2, 0 ≤ x) ∧ 1 ≤ g.1.2.1.length ∧ cov g.1.2.1 g.2.2 = false, S := fun g => Sq false I g.2.2 }
theorem oke6x {C fI : Addr} {fdI : FuncData} (XT : XC M "InvalidValue" C fI fdI "given" "given" 1) (P : Pr M "scheme_cost" (stm 16) ["wants", "prices", "fixed", "night", "scheme"]) (E4 : Gd M 3 "covers" ["wants", "scheme"] e4) : Gx M 4 "scheme_cost" ["wants", "prices", "fixed", "night", "scheme"] e6x C "given" := by
  refine P.gx sc_scheme_cost (by intro _; rfl) fun X B0 F0 D W g hp tk hK => ?_
  obtain ⟨⟨bb, wants, prices⟩, ⟨fixed, night⟩, sc⟩ := g
  dsimp only [mkΓ, e6x] at hp hK ⊢
  obtain ⟨o1, h1, h3, h4, h5⟩ := hp
  refine ds_ifT (t_notD (t_val (d_call0 (t := e4) (((bb, wants), sc)) E4 (Nat.le_of_ble_eq_true rfl) (a_cons (d_name Has.z) (a_cons (d_name (Has.s (Has.s (Has.s (Has.s Has.z))))) a_nil)) rfl ⟨h1, o1, h3, h4⟩))) (by show (!cov wants sc) = true; rw [h5]; rfl) ?_
  exact ds_raise tk XT (Nat.le_of_ble_eq_true rfl) (d_name (Has.s (Has.s (Has.s (Has.s Has.z))))) (fun σ dd v B H e O h1 h2 => hK σ dd v B H e O h1 h2)
def m4 : Ct ((List Int × List Int) × ((Int × Int) × (List Int × Bool))) := { As := fun g => [L I g.1.1, L I g.1.2, I g.2.1.1, I g.2.1.2, L I g.2.2.1, Bo g.2.2.2], pre := fun g => Oks g.1.1 g.1.2 g.2.1.2 ∧ g.2.2.1.length = g.1.1.length ∧ (∀ x ∈ g.2.2.1, 0 ≤ x) ∧ 1 ≤ g.1.1.length ∧ g.2.2.2 = cov g.1.1 g.2.2.1, S := fun _ => Bo true }
theorem dys_le {sc : List Int} : (dys sc).length ≤ sc.length := by
  unfold dys
  rw [List.length_map]
  exact Nat.le_trans (List.length_filter_le _ _) (by simp)
theorem dys_rng {sc : List Int} : ((tab (fun i => (i : Int)) sc.length).filter fun y : Int => decide (0 < w sc y.toNat)).map (fun y => y) = dys sc := by
  unfold tab dys
  rw [List.filter_map, List.map_map]
  rfl
theorem okm4 (Bl : Blt M) {C N fI : Addr} {fdI : FuncData} (XT : XC M "InvalidValue" C fI fdI "given" "given" 1) (XDf : XD M.K C N "given") (hNo : M.mg "NoKey" = some (.ref N)) (hIV : M.mg "InvalidValue" = some (.ref C)) (hex : PySem.W.exmOne M.K (.ref C) (.ref C) = some true)
    (P : Pr M "_law_scheme_holds" (stm 49) ["wants", "prices", "fixed", "night", "scheme", "good"]) (E4 : Gd M 3 "covers" ["wants", "scheme"] e4) (E6 : Gd M 4 "scheme_cost" ["wants", "prices", "fixed", "night", "scheme"] e6) (E6x : Gx M 4 "scheme_cost" ["wants", "prices", "fixed", "night", "scheme"] e6x C "given") (E11 : Gd M 1 "order_days" ["scheme"] e11)
    (GB : Gd M 1 "_law_same" ["told", "due"] sB) (GI : Gd M 1 "_law_same" ["told", "due"] sI) (GL : Gd M 2 "_law_same" ["told", "due"] sL) (GLh : Gh M 2 "_law_same" ["told", "due"] sL) : Gd M 5 "_law_scheme_holds" ["wants", "prices", "fixed", "night", "scheme", "good"] m4 := by
  refine P.gdS sc__law_scheme_holds (by intro _; rfl) fun X B0 F0 D g hst hfr hp hR hN => ?_
  obtain ⟨⟨wants, prices⟩, ⟨fixed, night⟩, sc, good⟩ := g
  dsimp only [mkΓ, m4] at hp hR ⊢
  obtain ⟨hOk, h1, h3, h4, hg⟩ := hp
  subst hg
  have o := hOk
  obtain ⟨⟨o1, o2⟩, ⟨o3, o4⟩, o5, o6⟩ := o
  refine ds_ifF (t_notD (t_val (d_call0 (t := sB) ((cov wants sc)) GB (Nat.le_of_ble_eq_true rfl) (a_cons (d_call0 (t := e4) (((true, wants), sc)) E4 (Nat.le_of_ble_eq_true rfl) (a_cons (d_list (d_name Has.z) Bl.list) (a_cons (d_tuple (d_name (Has.s (Has.s (Has.s (Has.s Has.z))))) Bl.tuple) a_nil)) rfl ⟨h1, o1, h3, h4⟩) (a_cons (d_name (Has.s (Has.s (Has.s (Has.s (Has.s Has.z)))))) a_nil)) rfl trivial))) rfl (ds_next ?_)
  have dl := dys_le (sc := sc)
  refine ds_lcF (own := [("day", 9)]) (Γw := ([("wants", some (L I wants)), ("prices", some (L I prices)), ("fixed", some (I fixed)), ("night", some (I night)), ("scheme", some (L I sc)), ("good", some (Bo (cov wants sc))), ("days", none), ("due", none), ("there", none), ("day", none), ("e", none)] : En)) (R := I) (ys := tab (fun i => (i : Int)) sc.length) (fun y => y) (fun y => decide (0 < w sc y.toNat)) (blkOk_by (by show blkC nm__law_scheme_holds (defScope (stm 49)) _ _ = true; decide +kernel)) (by repeat constructor) (i_rng1 (d_len (d_name (Has.s (Has.s (Has.s (Has.s Has.z))))) Bl.len) Bl.range) ?_ ?_ ?_ ?_ (Put.s (Put.s (Put.s (Put.s (Put.s (Put.s Put.z)))))) (fun l => ⟨_, (Put.s (Put.s (Put.s (Put.s (Put.s (Put.s Put.z)))))), ?_⟩)
  · rw [tab_len]; omega
  · rintro i _ hi rfl
    exact tab_get (by omega)
  · show _ < 16777216
    omega
  · rintro i _ hi rfl
    have hi : i < sc.length := by omega
    exact ⟨_, _, (g_name (Put.s (Put.s (Put.s (Put.s (Put.s (Put.s (Put.s (Put.s (Put.s Put.z)))))))))), by simp, (t_gt (d_ix (d_name (Has.s (Has.s (Has.s (Has.s Has.z))))) (d_name (Has.s (Has.s (Has.s (Has.s (Has.s (Has.s (Has.s (Has.s (Has.s Has.z)))))))))) (atI_of (j := i) rfl (at_w hi))) d_int), fun _ => (d_name (Has.s (Has.s (Has.s (Has.s (Has.s (Has.s (Has.s (Has.s (Has.s Has.z))))))))))⟩
  rw [dys_rng]
  refine ds_freeze (Upg.s (Upg.s (Upg.s (Upg.s (Upg.s (Upg.s Upg.z)))))) tak_last ?_
  refine ds_ifF (t_notD (t_val (d_call0 (t := sL) ((dys sc)) GL (Nat.le_of_ble_eq_true rfl) (a_cons (d_call0 (t := e11) (sc) E11 (Nat.le_of_ble_eq_true rfl) (a_cons (d_tuple (d_name (Has.s (Has.s (Has.s (Has.s Has.z))))) Bl.tuple) a_nil) rfl (by show _ ≤ 100; omega)) (a_cons (d_tuple (d_name (Has.s (Has.s (Has.s (Has.s (Has.s (Has.s Has.z))))))) Bl.tuple) a_nil)) rfl (by show _ ≤ 100000; omega)))) rfl (ds_next ?_)
  refine ds_if (t_notD (t_val (d_name (Has.s (Has.s (Has.s (Has.s (Has.s Has.z)))))))) ?_ ?_
  · intro h
    have hc : cov wants sc = false := by cases hq : cov wants sc with | false => rfl | true => rw [hq] at h; exact absurd h (by decide)
    refine ds_try hst hfr ((true, (wants, prices)), ((fixed, night), sc)) E6x (Nat.le_of_ble_eq_true rfl) (a_cons (d_list (d_name Has.z) Bl.list) (a_cons (d_list (d_name (Has.s Has.z)) Bl.list) (a_cons (d_name (Has.s (Has.s Has.z))) (a_cons (d_name (Has.s (Has.s (Has.s Has.z)))) (a_cons (d_tuple (d_name (Has.s (Has.s (Has.s (Has.s Has.z))))) Bl.tuple) a_nil))))) rfl ⟨o1, h1, h3, h4, hc⟩ hIV hex (i := 10) rfl rfl ?_
    intro a oe dd pn D' σ v B H hrt hz hf fx e hE hO hna hd hv
    exact suite_same fx hz hf hE hO hd hv (by rw [fx.K]; exact XDf) (n := "e") (y := "NoKey") (z := "scheme") (bz := true) rfl (.inl rfl) hNo (Has.s (Has.s (Has.s (Has.s Has.z)))) (by decide) (.inr (.inl rfl)) GLh (Nat.le_of_ble_eq_true rfl) rfl (by show sc.length ≤ 100000; omega) rfl rfl rfl (fun B' H' e1 O1 => by rw [hrt]; exact hR _ _ _ (e.trans e1) O1 rfl) Bl.isinstance Bl.tuple rfl rfl rfl rfl (by decide) (by decide) (by decide) (by decide) (by decide) (by decide)
  · intro h
    have hc : cov wants sc = true := by cases hq : cov wants sc with | true => rfl | false => rw [hq] at h; exact absurd h (by decide)
    refine ds_next ?_
    refine ds_asg (DE.eqI (j := fixed * ((dys sc).length : Int) + tot (dcost wants prices night sc) 0) (d_mul (d_name (Has.s (Has.s Has.z))) (d_len (d_name (Has.s (Has.s (Has.s (Has.s (Has.s (Has.s Has.z))))))) Bl.len) (Or.inr ⟨by omega, by omega⟩)) (by show _ = _ + (0 : Int); omega)) (Put.s (Put.s (Put.s (Put.s (Put.s (Put.s (Put.s Put.z))))))) ?_
    refine ds_asg (DE.eqI (j := tot (df wants sc) 0) d_int rfl) (Put.s (Put.s (Put.s (Put.s (Put.s (Put.s (Put.s (Put.s Put.z)))))))) ?_
    refine ds_forF (fun i => ([("wants", some (L I wants)), ("prices", some (L I prices)), ("fixed", some (I fixed)), ("night", some (I night)), ("scheme", some (L I sc)), ("good", some (Bo (cov wants sc))), ("days", some (L I (dys sc))), ("due", some (I (fixed * ((dys sc).length : Int) + tot (dcost wants prices night sc) i))), ("there", some (I (tot (df wants sc) i))), ("day", none), ("e", none)] : En)) (fun i => []) (i_rng1 (d_len (d_name Has.z) Bl.len) Bl.range) (by walk_at "fg") rfl ?_ ?_
    · rintro B1 hB1 d _ hd rfl
      have hd : d < wants.length := by omega
      refine ⟨_, _, (g_name (Put.s (Put.s (Put.s (Put.s (Put.s (Put.s (Put.s (Put.s (Put.s Put.z)))))))))), ?_⟩
      refine ds_asg (DE.eqI (j := tot (df wants sc) (d + 1)) (d_sub (d_add (d_name (Has.s (Has.s (Has.s (Has.s (Has.s (Has.s (Has.s (Has.s Has.z))))))))) (d_ix (d_name (Has.s (Has.s (Has.s (Has.s Has.z))))) (d_name (Has.s (Has.s (Has.s (Has.s (Has.s (Has.s (Has.s (Has.s (Has.s Has.z)))))))))) (atI_of (j := d) rfl (at_w (by omega))))) (d_ix (d_name Has.z) (d_name (Has.s (Has.s (Has.s (Has.s (Has.s (Has.s (Has.s (Has.s (Has.s Has.z)))))))))) (atI_of (j := d) rfl (at_w hd)))) (by show _ = tot (df wants sc) d + (w sc d - w wants d); omega)) (Put.s (Put.s (Put.s (Put.s (Put.s (Put.s (Put.s (Put.s Put.z)))))))) ?_
      have hw1 := w_in (k := d) o4
      refine ds_asg (DE.eqI (j := fixed * ((dys sc).length : Int) + tot (dcost wants prices night sc) (d + 1)) (d_add (d_add (d_name (Has.s (Has.s (Has.s (Has.s (Has.s (Has.s (Has.s Has.z)))))))) (d_mul (d_ix (d_name (Has.s Has.z)) (d_name (Has.s (Has.s (Has.s (Has.s (Has.s (Has.s (Has.s (Has.s (Has.s Has.z)))))))))) (atI_of (j := d) rfl (at_w (by omega)))) (d_ix (d_name (Has.s (Has.s (Has.s (Has.s Has.z))))) (d_name (Has.s (Has.s (Has.s (Has.s (Has.s (Has.s (Has.s (Has.s (Has.s Has.z)))))))))) (atI_of (j := d) rfl (at_w (by omega)))) (Or.inl ⟨by omega, by omega⟩))) (d_mul (d_name (Has.s (Has.s (Has.s Has.z)))) (d_name (Has.s (Has.s (Has.s (Has.s (Has.s (Has.s (Has.s (Has.s Has.z))))))))) (Or.inl ⟨by omega, by omega⟩))) (by show _ = fixed * ((dys sc).length : Int) + (tot (dcost wants prices night sc) d + (w prices d * w sc d + night * tot (df wants sc) (d + 1))); omega)) (Put.s (Put.s (Put.s (Put.s (Put.s (Put.s (Put.s Put.z))))))) ?_
      exact ds_turnF (by walk_at "fg") rfl rfl rfl
    · rw [show ((wants.length : Int)).toNat = wants.length by omega]
      exact ds_ret0 hR (d_call0 (t := sI) ((fixed * ((dys sc).length : Int) + tot (dcost wants prices night sc) wants.length)) GI (Nat.le_of_ble_eq_true rfl) (a_cons (d_call0 (t := e6) (((false, (wants, prices)), ((fixed, night), sc))) E6 (Nat.le_of_ble_eq_true rfl) (a_cons (d_tuple (d_name Has.z) Bl.tuple) (a_cons (d_tuple (d_name (Has.s Has.z)) Bl.tuple) (a_cons (d_name (Has.s (Has.s Has.z))) (a_cons (d_name (Has.s (Has.s (Has.s Has.z)))) (a_cons (d_tuple (d_name (Has.s (Has.s (Has.s (Has.s Has.z))))) Bl.tuple) a_nil))))) rfl ⟨hOk, h1, h3, h4, hc⟩) (a_cons (d_name (Has.s (Has.s (Has.s (Has.s (Has.s (Has.s (Has.s Has.z)))))))) a_nil)) (by show [I (scc wants prices fixed night sc), _] = _; rw [scc_eq h1 (fun i hi => h3 _ (List.mem_of_getElem? (at_w (by omega))))]; rfl) trivial) rfl
end
end K27

set_option maxHeartbeats 4000000
/-! K27l: the law. -/
namespace K27
open PySem PySem.Spec PyProof.Rows L2 ZZ
open Evl (Ex)
local macro_rules | `(tactic| walk_at "has") => `(tactic| (with_reducible first | exact Has.z | exact Has.s Has.z | exact Has.s (Has.s Has.z) | exact Has.s (Has.s (Has.s Has.z)) | exact Has.s (Has.s (Has.s (Has.s Has.z))) | exact Has.s (Has.s (Has.s (Has.s (Has.s Has.z)))) | exact Has.s (Has.s (Has.s (Has.s (Has.s (Has.s Has.z))))) | exact Has.s (Has.s (Has.s (Has.s (Has.s (Has.s (Has.s Has.z))))))))
local macro_rules | `(tactic| walk_at "put") => `(tactic| (with_reducible first | exact Put.z | exact Put.s Put.z | exact Put.s (Put.s Put.z) | exact Put.s (Put.s (Put.s Put.z)) | exact Put.s (Put.s (Put.s (Put.s Put.z))) | exact Put.s (Put.s (Put.s (Put.s (Put.s Put.z)))) | exact Put.s (Put.s (Put.s (Put.s (Put.s (Put.s Put.z))))) | exact Put.s (Put.s (Put.s (Put.s (Put.s (Put.s (Put.s Put.z))))))))
local macro_rules | `(tactic| walk_at "swp") => `(tactic| (with_reducible first | exact Swp.z | exact Swp.s Swp.z | exact Swp.s (Swp.s Swp.z) | exact Swp.s (Swp.s (Swp.s Swp.z)) | exact Swp.s (Swp.s (Swp.s (Swp.s Swp.z))) | exact Swp.s (Swp.s (Swp.s (Swp.s (Swp.s Swp.z)))) | exact Swp.s (Swp.s (Swp.s (Swp.s (Swp.s (Swp.s Swp.z))))) | exact Swp.s (Swp.s (Swp.s (Swp.s (Swp.s (Swp.s (Swp.s Swp.z))))))))
local macro_rules | `(tactic| walk_at "tak") => `(tactic| (with_reducible first | exact Tak.z | exact Tak.s Tak.z | exact Tak.s (Tak.s Tak.z) | exact Tak.s (Tak.s (Tak.s Tak.z)) | exact Tak.s (Tak.s (Tak.s (Tak.s Tak.z))) | exact Tak.s (Tak.s (Tak.s (Tak.s (Tak.s Tak.z)))) | exact Tak.s (Tak.s (Tak.s (Tak.s (Tak.s (Tak.s Tak.z))))) | exact Tak.s (Tak.s (Tak.s (Tak.s (Tak.s (Tak.s (Tak.s Tak.z))))))))
local macro_rules | `(tactic| walk_at "hold") => `(tactic| (with_reducible first | exact Hold.z | exact Hold.s Hold.z | exact Hold.s (Hold.s Hold.z) | exact Hold.s (Hold.s (Hold.s Hold.z)) | exact Hold.s (Hold.s (Hold.s (Hold.s Hold.z))) | exact Hold.s (Hold.s (Hold.s (Hold.s (Hold.s Hold.z)))) | exact Hold.s (Hold.s (Hold.s (Hold.s (Hold.s (Hold.s Hold.z))))) | exact Hold.s (Hold.s (Hold.s (Hold.s (Hold.s (Hold.s (Hold.s Hold.z))))))))
local macro_rules | `(tactic| walk_at "upe") => `(tactic| (with_reducible first | exact UpE.z | exact UpE.s UpE.z | exact UpE.s (UpE.s UpE.z) | exact UpE.s (UpE.s (UpE.s UpE.z)) | exact UpE.s (UpE.s (UpE.s (UpE.s UpE.z))) | exact UpE.s (UpE.s (UpE.s (UpE.s (UpE.s UpE.z)))) | exact UpE.s (UpE.s (UpE.s (UpE.s (UpE.s (UpE.s UpE.z))))) | exact UpE.s (UpE.s (UpE.s (UpE.s (UpE.s (UpE.s (UpE.s UpE.z))))))))
local macro_rules | `(tactic| walk_at "fg") => `(tactic| (repeat (first | exact Fg.nil | (with_reducible refine Fg.keep rfl ?_) | (with_reducible refine Fg.drop ?_))))
local macro_rules | `(tactic| walk_at "nonb") => `(tactic| first | exact nonb_I | exact nonb_No | exact nonb_Bo | exact nonb_S | exact nonb_seq | exact nonb_tup)
local macro_rules | `(tactic| walk_at "istb") => `(tactic| first | exact istb_sc | exact istb_seq | exact istb_tup)

section
variable {M : Mo}
theorem d_callY {c : Cc} {Γ : En} {ω ω1 : Ws} {x : Str} {px pos : Pos} {e : Expr} {es : List Expr} {S : Sh} [Cold c] {τ : Type} {t : Ct τ} {k : Nat} {ps : List Str} {ss : List Sh} (G : Gd c.M k x ps t) (hk : k ≤ c.k) (ha : DA c Γ ω (e :: es) ss ω1)
    (h : ∀ B vs, All2 (fun v (s : Sh) => s.p B v) vs ss → ∃ g, t.pre g ∧ All2 (fun v (s : Sh) => s.p B v) vs (t.As g) ∧ t.ω g = [] ∧ t.ω' g = [] ∧ Sle (t.S g) S)
    (hg : Glo c.sc x := by exact rfl) (hdb : (x == ("__debug__" : Str)) = false := by decide) (he : ∀ env, starEach (e :: es) env = (false, eval e env) :: starEach es env := by intro _; rfl) (hpl : ∀ env, (backTo pos (starEach es env)).any (·.1) = false := by intro _; rfl) :
    DE c Γ ω (.Call (.Name x px) (e :: es) [] pos) S ω1 := by
  obtain ⟨f, fd, hF, hm, hkp, hb'⟩ := G
  intro X fx F σ B H hE hO Q hQ
  have hF' : FnOk X.prog X.w X.K X.mg X.base CX0 k f fd ps t.sp := by rw [fx.prog, fx.w, fx.K, fx.mg, fx.base]; exact hF
  refine tW.of (pe_call (ds := []) (dvs := []) (E := E0) hF' (fx.room.mono hk) (gl_of fx hg) (by rw [fx.mg]; exact hm) (by rw [fx.K]; exact hkp) (by rw [fx.K]; exact hb') .nil pass0 pa_w hdb (he _) (hpl _)) ?_
  refine ha X fx F σ B H hE hO _ fun vs B1 H1 e1 O1 p1 => ?_
  obtain ⟨g, h1, h2, h3, h4, h5⟩ := h B1 vs p1
  refine ⟨g, frame F ω1 H1, B1, h1, by rw [List.append_nil]; exact h2, by rw [h3]; exact (show Own F ([] ++ ω1) B1 H1 from O1).focus, fun v B' H' e2 O2 p2 => ?_⟩
  rw [h4] at O2
  exact hQ v B' H' (e1.trans e2) ((show Own F ([] ++ ω1) B1 H1 from O1).unfocus e2 O2 rfl) (h5 _ _ p2)
theorem sle_nat {P : Int → Prop} {Q : Nat → Prop} (h : ∀ z, P z → ∃ a : Nat, Q a ∧ z = (a : Int)) : Sle (Ei P) (Es Q (fun a : Nat => I (a : Int))) := fun B v ⟨z, hz, p⟩ => by
  obtain ⟨a, ha, rfl⟩ := h z hz
  exact ⟨a, ha, p⟩
theorem sle_up {P Q : Int → Prop} (h : ∀ z, P z → Q z) : Sle (Ei P) (Ei Q) := fun B v ⟨z, hz, p⟩ => ⟨z, h z hz, p⟩
theorem sle_eu {P : Int → Prop} {Q : Unit → Prop} : Sle (Es Q (fun _ : Unit => Ei P)) (Ei P) := fun B v ⟨_, _, p⟩ => p
theorem oklaw (Bl : Blt M) {f : Addr} {fd : FuncData} (Fl : Fun M.K "law" "law" (stm 50) f fd) (Gpool : Gq M 1 "_law_pool" 63 ["script", "many"]) (Gpd : Gd M 1 "_law_draw" ["pool", "many"] pd) (LN : Gd M 2 "_law_numbers" ["pool", "many"] l2) (L4 : Gd M 2 "_law_best" ["past", "most"] l4) (L5 : Gd M 7 "_law_outlook_holds" ["past", "most", "many"] l5) (L6 : Gd M 1 "_law_windows" ["wants", "lead"] l6) (L7 : Gd M 2 "_law_level" ["pool", "spans", "told"] l7) (L8 : Gd M 4 "_law_rows_hold" ["wants", "lead", "height", "spans"] l8)
    (L9 : Gd M 5 "_law_levels_hold" ["wants", "lead", "height", "spans", "days"] l9) (M1 : Gd M 1 "_law_scheme" ["wants", "lead", "height"] m1) (M3 : Gd M 5 "_law_costs_hold" ["wants", "prices", "fixed", "night"] m3) (M4 : Gd M 5 "_law_scheme_holds" ["wants", "prices", "fixed", "night", "scheme", "good"] m4) : FnOk M.P M.w M.K M.mg M.base CX0 8 f fd ["script"] (lawC M.K 63).sp := by
  refine gd_fn Fl sc_law (by intro _; rfl) fun X B0 F0 D ns hp hR hN => ?_
  dsimp only [mkΓ, lawC] at hp hR ⊢
  refine ds_pool Gpool (Nat.le_of_ble_eq_true rfl) (d_name Has.z) d_int (⟨hp, by decide, by decide⟩ : ns.length ≤ 63 ∧ (0 : Int) ≤ 110 ∧ (110 : Int) ≤ 1000) (Put.s Put.z) fun p => ⟨_, (Put.s Put.z), ?_⟩
  refine ds_asgE (P := fun l : List Int => (2 ≤ l.length ∧ l.length ≤ 10) ∧ ∀ x ∈ l, 0 ≤ x ∧ x ≤ 999) (Rs := L I) (p_callX LN (Nat.le_of_ble_eq_true rfl) (a_cons (d_name (Has.s Has.z)) (a_cons (e_add (DE.some d_int) (p_draw Gpd (Nat.le_of_ble_eq_true rfl) (d_name (Has.s Has.z)) d_int (by omega))) a_nil)) ?_) (Put.s (Put.s Put.z)) fun past hpast => ⟨_, (Put.s (Put.s Put.z)), ?_⟩
  · intro B vs h
    obtain ⟨v, u, rfl, h1, _, ⟨_, j, rfl, hj, rfl⟩, h2⟩ := all2 h
    obtain ⟨a, rfl⟩ := Int.eq_ofNat_of_zero_le hj.1
    exact ⟨(p, 2 + a), by show 2 + a ≤ 1000; omega, .cons h1 (.cons (by rw [show ((2 + a : Nat) : Int) = 2 + (a : Int) by omega]; exact h2) .nil), rfl, rfl, fun B v ⟨l, hl, q⟩ => ⟨l, ⟨by rw [hl.1]; show 2 ≤ 2 + a ∧ 2 + a ≤ 10; omega, hl.2⟩, q⟩⟩
  obtain ⟨⟨pl, pu⟩, hpx⟩ := hpast
  have hP : Pst past := ⟨by omega, hpx⟩
  refine ds_asgE (P := fun a : Nat => 1 ≤ a ∧ a < past.length) (Rs := fun a : Nat => I (a : Int)) (DE.wide (e_add (DE.some d_int) (p_draw Gpd (Nat.le_of_ble_eq_true rfl) (d_name (Has.s Has.z)) (d_sub (d_len (d_name (Has.s (Has.s Has.z))) Bl.len) d_int) (by omega))) (sle_nat ?_)) (Put.s (Put.s (Put.s Put.z))) fun most hmost => ⟨_, (Put.s (Put.s (Put.s Put.z))), ?_⟩
  · rintro _ ⟨_, j, rfl, hj, rfl⟩
    exact ⟨(1 + j).toNat, by omega, by omega⟩
  refine ds_asgE (P := fun a : Nat => 1 ≤ a ∧ a < past.length) (Rs := fun a : Nat => I (a : Int)) (DE.wide (e_add (DE.some d_int) (p_draw Gpd (Nat.le_of_ble_eq_true rfl) (d_name (Has.s Has.z)) (d_sub (d_len (d_name (Has.s (Has.s Has.z))) Bl.len) d_int) (by omega))) (sle_nat ?_)) (Put.s (Put.s (Put.s (Put.s Put.z)))) fun many hmany => ⟨_, (Put.s (Put.s (Put.s (Put.s Put.z)))), ?_⟩
  · rintro _ ⟨_, j, rfl, hj, rfl⟩
    exact ⟨(1 + j).toNat, by omega, by omega⟩
  refine ds_ifF (t_notD (t_val (d_call0 (t := l5) ((past, (most, many))) L5 (Nat.le_of_ble_eq_true rfl) (a_cons (d_name (Has.s (Has.s Has.z))) (a_cons (d_name (Has.s (Has.s (Has.s Has.z)))) (a_cons (d_name (Has.s (Has.s (Has.s (Has.s Has.z))))) a_nil))) rfl ⟨hmost, hmany, hP⟩))) rfl (ds_next ?_)
  refine ds_asg (d_call0 (t := l4) ((past, most)) L4 (Nat.le_of_ble_eq_true rfl) (a_cons (d_name (Has.s (Has.s Has.z))) (a_cons (d_name (Has.s (Has.s (Has.s Has.z)))) a_nil)) rfl ⟨hmost.1, hmost.2, hP⟩) (Put.s (Put.s (Put.s (Put.s (Put.s Put.z))))) ?_
  have bb := bst_in (past := past) (k := most)
  have e := cut_last (l := past) (j := past.length - bst past most) (i := (past.length : Int) - ((bst past most : Nat) : Int)) (by omega) (by omega)
  have l0 : 0 ≤ lst past (bst past most) := by
    have := pre_mono hP.2 (j := past.length - bst past most) (d := bst past most)
    rw [show past.length - bst past most + bst past most = past.length by omega] at this
    unfold lst
    omega
  obtain ⟨told, htold, h0⟩ : ∃ t : Int, t = (lst past (bst past most) + ((bst past most : Nat) : Int) - 1) / ((bst past most : Nat) : Int) ∧ 0 ≤ t := ⟨_, rfl, Int.ediv_nonneg (by omega) (by omega)⟩
  refine ds_asg (DE.eqI (j := told) (d_div (d_sub (d_add (d_sumB (d_sl (d_name (Has.s (Has.s Has.z))) (o_some (d_sub (d_len (d_name (Has.s (Has.s Has.z))) Bl.len) (d_name (Has.s (Has.s (Has.s (Has.s (Has.s Has.z)))))))) o_none) Bl.sum) (d_name (Has.s (Has.s (Has.s (Has.s (Has.s Has.z))))))) d_int) (d_name (Has.s (Has.s (Has.s (Has.s (Has.s Has.z)))))) ⟨by show (0 : Int) < ((bst past most : Nat) : Int); omega, by show ((bst past most : Nat) : Int) < 1073741824; omega⟩) (by rw [htold]; exact congrArg (fun z => (z + ((bst past most : Nat) : Int) - 1) / ((bst past most : Nat) : Int)) e)) (Put.s (Put.s (Put.s (Put.s (Put.s (Put.s Put.z)))))) ?_
  refine ds_asgE (P := fun l : List Int => (1 ≤ l.length ∧ l.length ≤ 10) ∧ ∀ x ∈ l, 0 ≤ x ∧ x ≤ 999) (Rs := L I) (p_callX LN (Nat.le_of_ble_eq_true rfl) (a_cons (d_name (Has.s Has.z)) (a_cons (e_add (DE.some d_int) (p_draw Gpd (Nat.le_of_ble_eq_true rfl) (d_name (Has.s Has.z)) d_int (by omega))) a_nil)) ?_) (Put.s (Put.s (Put.s (Put.s (Put.s (Put.s (Put.s Put.z))))))) fun wants hwants => ⟨_, (Put.s (Put.s (Put.s (Put.s (Put.s (Put.s (Put.s Put.z))))))), ?_⟩
  · intro B vs h
    obtain ⟨v, u, rfl, h1, _, ⟨_, j, rfl, hj, rfl⟩, h2⟩ := all2 h
    obtain ⟨a, rfl⟩ := Int.eq_ofNat_of_zero_le hj.1
    exact ⟨(p, 1 + a), by show 1 + a ≤ 1000; omega, .cons h1 (.cons (by rw [show ((1 + a : Nat) : Int) = 1 + (a : Int) by omega]; exact h2) .nil), rfl, rfl, fun B v ⟨l, hl, q⟩ => ⟨l, ⟨by rw [hl.1]; show 1 ≤ 1 + a ∧ 1 + a ≤ 10; omega, hl.2⟩, q⟩⟩
  obtain ⟨⟨wl, wu⟩, hwx⟩ := hwants
  refine ds_asgE (P := fun a : Nat => 1 ≤ a ∧ a ≤ 9) (Rs := fun a : Nat => I (a : Int)) (DE.wide (e_add (DE.some d_int) (p_drawE Gpd (Nat.le_of_ble_eq_true rfl) (d_name (Has.s Has.z)) (e_ix (d_lstQ (I) (([9, 3])) (a_cons d_int (a_cons d_int a_nil))) (p_draw Gpd (Nat.le_of_ble_eq_true rfl) (d_name (Has.s Has.z)) d_int (by omega)) (fun k hk => ⟨hk.1, hk.2⟩)) ?_)) (sle_nat ?_)) (Put.s (Put.s (Put.s (Put.s (Put.s (Put.s (Put.s (Put.s Put.z)))))))) fun lead hlead => ⟨_, (Put.s (Put.s (Put.s (Put.s (Put.s (Put.s (Put.s (Put.s Put.z)))))))), ?_⟩
  · rintro z ⟨k, hk, hy⟩
    obtain rfl | rfl : k = 0 ∨ k = 1 := by omega
    · cases hy; decide
    · cases hy; decide
  · rintro _ ⟨_, j, rfl, ⟨m, ⟨k, hk, hy⟩, hj⟩, rfl⟩
    have hm : m ≤ 9 := by
      obtain rfl | rfl : k = 0 ∨ k = 1 := by omega
      · cases hy; decide
      · cases hy; decide
    exact ⟨(1 + j).toNat, by omega, by omega⟩
  have hw0 : ∀ d, d < wants.length → 0 ≤ win wants lead d := fun d hd => by
    rw [win_eq hlead.1]
    have := pre_mono hwx (j := d + 1 - lead) (d := d + 1 - (d + 1 - lead))
    rw [show d + 1 - lead + (d + 1 - (d + 1 - lead)) = d + 1 by omega] at this
    omega
  have hs0 : ∀ x ∈ tab (win wants lead) wants.length, 0 ≤ x := fun x hx => by
    obtain ⟨d, hd, rfl⟩ := tab_mem.mp hx
    exact hw0 d hd
  have hsne : tab (win wants lead) wants.length ≠ [] := tab_ne wl
  have hsl : (tab (win wants lead) wants.length).length = wants.length := tab_len
  refine ds_asg (d_call0 (t := l6) ((wants, lead)) L6 (Nat.le_of_ble_eq_true rfl) (a_cons (d_name (Has.s (Has.s (Has.s (Has.s (Has.s (Has.s (Has.s Has.z)))))))) (a_cons (d_name (Has.s (Has.s (Has.s (Has.s (Has.s (Has.s (Has.s (Has.s Has.z))))))))) a_nil)) rfl (by show wants.length ≤ 100; omega)) (Put.s (Put.s (Put.s (Put.s (Put.s (Put.s (Put.s (Put.s (Put.s Put.z))))))))) ?_
  refine ds_asgE (p_callK (t := l7) ((p, (tab (win wants lead) wants.length, (lead : Int) * told))) L7 (Nat.le_of_ble_eq_true rfl) (a_cons (d_name (Has.s Has.z)) (a_cons (d_name (Has.s (Has.s (Has.s (Has.s (Has.s (Has.s (Has.s (Has.s (Has.s Has.z)))))))))) (a_cons (d_mul (d_name (Has.s (Has.s (Has.s (Has.s (Has.s (Has.s (Has.s (Has.s Has.z))))))))) (d_name (Has.s (Has.s (Has.s (Has.s (Has.s (Has.s Has.z))))))) (Or.inl ⟨by omega, by omega⟩)) a_nil))) rfl ⟨hsne, by show (tab (win wants lead) wants.length).length ≤ 100; omega, hs0, Int.mul_nonneg (by omega) h0⟩) (Put.s (Put.s (Put.s (Put.s (Put.s (Put.s (Put.s (Put.s (Put.s (Put.s Put.z)))))))))) fun v_height h_height => ⟨_, (Put.s (Put.s (Put.s (Put.s (Put.s (Put.s (Put.s (Put.s (Put.s (Put.s Put.z)))))))))), ?_⟩
  refine ds_ifF (t_notD (t_val (d_callY (S := Bo true) L9 (Nat.le_of_ble_eq_true rfl) (a_cons (d_name (Has.s (Has.s (Has.s (Has.s (Has.s (Has.s (Has.s Has.z)))))))) (a_cons (d_name (Has.s (Has.s (Has.s (Has.s (Has.s (Has.s (Has.s (Has.s Has.z))))))))) (a_cons (d_name (Has.s (Has.s (Has.s (Has.s (Has.s (Has.s (Has.s (Has.s (Has.s (Has.s Has.z))))))))))) (a_cons (d_name (Has.s (Has.s (Has.s (Has.s (Has.s (Has.s (Has.s (Has.s (Has.s Has.z)))))))))) (a_cons (p_draw Gpd (Nat.le_of_ble_eq_true rfl) (d_name (Has.s Has.z)) (d_add (d_len (d_name (Has.s (Has.s (Has.s (Has.s (Has.s (Has.s (Has.s Has.z)))))))) Bl.len) d_int) (by omega)) a_nil))))) ?_))) rfl (ds_next ?_)
  · intro B vs h
    cases h with | cons p1 h => cases h with | cons p2 h => cases h with | cons p3 h => cases h with | cons p4 h => cases h with | cons p5 h =>
    cases h
    obtain ⟨j, hj, p5⟩ := p5
    obtain ⟨a, rfl⟩ := Int.eq_ofNat_of_zero_le hj.1
    exact ⟨(wants, ((lead, v_height), a)), ⟨by show wants.length ≤ 100; omega, wl, hlead.1, h_height⟩, .cons p1 (.cons p2 (.cons p3 (.cons p4 (.cons p5 .nil)))), rfl, rfl, Sle.refl⟩
  refine ds_lc (own := [("day", 16)]) (Γw := ([("script", some (Sk M.K ns)), ("pool", some (At p)), ("past", some (L I past)), ("most", some (I (most : Int))), ("many", some (I (many : Int))), ("best", some (I ((bst past most : Nat) : Int))), ("told", some (I told)), ("wants", some (L I wants)), ("lead", some (I (lead : Int))), ("spans", some (L I (tab (win wants lead) wants.length))), ("height", some (I v_height)), ("prices", none), ("fixed", none), ("night", none), ("top", none), ("scheme", none), ("day", none), ("window", none)] : En)) (R := I) (blkOk_by (by show blkC nm_law (defScope (stm 50)) _ _ = true; decide +kernel)) (by repeat constructor) (i_seq (d_name (Has.s (Has.s (Has.s (Has.s (Has.s (Has.s (Has.s Has.z))))))))) (fun i ys => ys.length = i ∧ ∀ x ∈ ys, 0 ≤ x ∧ x ≤ 999) ⟨rfl, fun _ h => absurd h (by simp)⟩ ?_ (.inl rfl) ?_ (Put.s (Put.s (Put.s (Put.s (Put.s (Put.s (Put.s (Put.s (Put.s (Put.s (Put.s Put.z))))))))))) (fun l prices hpr => ⟨_, (Put.s (Put.s (Put.s (Put.s (Put.s (Put.s (Put.s (Put.s (Put.s (Put.s (Put.s Put.z))))))))))), ?_⟩)
  · show _ < 16777216
    omega
  · rintro i y ys hi hy ⟨hj1, hj2⟩
    refine ⟨_, _, (· = true), (g_name (Put.s (Put.s (Put.s (Put.s (Put.s (Put.s (Put.s (Put.s (Put.s (Put.s (Put.s (Put.s (Put.s (Put.s (Put.s (Put.s Put.z))))))))))))))))), by simp, rfl, fun _ => DE.wide (p_draw Gpd (Nat.le_of_ble_eq_true rfl) (d_name (Has.s Has.z)) d_int (by omega)) fun B v ⟨z, hz, q⟩ => ⟨z, ⟨by simp [hj1], fun x hx => ?_⟩, q⟩, fun z => nomatch z⟩
    rcases List.mem_append.mp hx with hx | hx
    · exact hj2 x hx
    · rw [List.mem_singleton.mp hx]; omega
  obtain ⟨hprl, hprx⟩ := hpr
  refine ds_freeze (Upg.s (Upg.s (Upg.s (Upg.s (Upg.s (Upg.s (Upg.s (Upg.s (Upg.s (Upg.s (Upg.s Upg.z))))))))))) tak_last ?_
  refine ds_asgE (P := fun z : Int => 0 ≤ z) (Rs := I) (DE.wide (e_ix (d_lstQ (fun _ : Unit => Ei (fun z => 0 ≤ z)) [(), (), ()] (a_cons (DE.wide d_int (sle_es (R := I) (P := fun z => 0 ≤ z) (by decide))) (a_cons (DE.wide (p_draw Gpd (Nat.le_of_ble_eq_true rfl) (d_name (Has.s Has.z)) d_int (by omega)) (sle_up (Q := fun z => 0 ≤ z) (by intro z hz; exact hz.1))) (a_cons (DE.wide (p_draw Gpd (Nat.le_of_ble_eq_true rfl) (d_name (Has.s Has.z)) d_int (by omega)) (sle_up (Q := fun z => 0 ≤ z) (by intro z hz; exact hz.1))) a_nil)))) (p_draw Gpd (Nat.le_of_ble_eq_true rfl) (d_name (Has.s Has.z)) d_int (by omega)) (fun k hk => ⟨hk.1, hk.2⟩)) sle_eu) (Put.s (Put.s (Put.s (Put.s (Put.s (Put.s (Put.s (Put.s (Put.s (Put.s (Put.s (Put.s Put.z)))))))))))) fun fixed hfixed => ⟨_, (Put.s (Put.s (Put.s (Put.s (Put.s (Put.s (Put.s (Put.s (Put.s (Put.s (Put.s (Put.s Put.z)))))))))))), ?_⟩
  refine ds_asgE (P := fun z : Int => 0 ≤ z ∧ z ≤ 1000) (Rs := I) (DE.wide (e_ix (d_lstQ (fun _ : Unit => Ei (fun z => 0 ≤ z ∧ z ≤ 1000)) [(), ()] (a_cons (DE.wide (p_draw Gpd (Nat.le_of_ble_eq_true rfl) (d_name (Has.s Has.z)) d_int (by omega)) (sle_up (Q := fun z => 0 ≤ z ∧ z ≤ 1000) (by intro z hz; exact ⟨hz.1, by omega⟩))) (a_cons (DE.wide (p_draw Gpd (Nat.le_of_ble_eq_true rfl) (d_name (Has.s Has.z)) d_int (by omega)) (sle_up (Q := fun z => 0 ≤ z ∧ z ≤ 1000) (by intro z hz; exact ⟨hz.1, by omega⟩))) a_nil))) (p_draw Gpd (Nat.le_of_ble_eq_true rfl) (d_name (Has.s Has.z)) d_int (by omega)) (fun k hk => ⟨hk.1, hk.2⟩)) sle_eu) (Put.s (Put.s (Put.s (Put.s (Put.s (Put.s (Put.s (Put.s (Put.s (Put.s (Put.s (Put.s (Put.s Put.z))))))))))))) fun night hnight => ⟨_, (Put.s (Put.s (Put.s (Put.s (Put.s (Put.s (Put.s (Put.s (Put.s (Put.s (Put.s (Put.s (Put.s Put.z))))))))))))), ?_⟩
  have hOk : Oks wants prices night := ⟨⟨by omega, hwx⟩, ⟨hprl, hprx⟩, hnight⟩
  refine ds_ifF (t_notD (t_val (d_call0 (t := m3) (((wants, prices), (fixed, night))) M3 (Nat.le_of_ble_eq_true rfl) (a_cons (d_name (Has.s (Has.s (Has.s (Has.s (Has.s (Has.s (Has.s Has.z)))))))) (a_cons (d_name (Has.s (Has.s (Has.s (Has.s (Has.s (Has.s (Has.s (Has.s (Has.s (Has.s (Has.s Has.z)))))))))))) (a_cons (d_name (Has.s (Has.s (Has.s (Has.s (Has.s (Has.s (Has.s (Has.s (Has.s (Has.s (Has.s (Has.s Has.z))))))))))))) (a_cons (d_name (Has.s (Has.s (Has.s (Has.s (Has.s (Has.s (Has.s (Has.s (Has.s (Has.s (Has.s (Has.s (Has.s Has.z)))))))))))))) a_nil)))) rfl ⟨hOk, hfixed⟩))) rfl (ds_next ?_)
  have ht := mxl_mem hsne
  have ht0 := hs0 _ ht
  have ht2 : ∀ y ∈ tab (win wants lead) wants.length, y ≤ mxl (tab (win wants lead) wants.length) := fun y hy => mxl_le hy
  refine ds_asg (d_maxL (DN.frz (n_lcM (own := [("window", 17)]) (Γw := ([("script", some (Sk M.K ns)), ("pool", some (At p)), ("past", some (L I past)), ("most", some (I (most : Int))), ("many", some (I (many : Int))), ("best", some (I ((bst past most : Nat) : Int))), ("told", some (I told)), ("wants", some (L I wants)), ("lead", some (I (lead : Int))), ("spans", some (L I (tab (win wants lead) wants.length))), ("height", some (I v_height)), ("prices", some (L I prices)), ("fixed", some (I fixed)), ("night", some (I night)), ("top", none), ("scheme", none), ("day", none), ("window", none)] : En)) (R := I) (blkOk_by (by show blkC nm_law (defScope (stm 50)) _ _ = true; decide +kernel)) (by repeat constructor) (i_seq (d_name (Has.s (Has.s (Has.s (Has.s (Has.s (Has.s (Has.s (Has.s (Has.s Has.z))))))))))) ((tab (win wants lead) wants.length)) ?_ ?_ ?_)) (mxl_mem hsne) (fun y hy => mxl_le hy) Bl.max) (Put.s (Put.s (Put.s (Put.s (Put.s (Put.s (Put.s (Put.s (Put.s (Put.s (Put.s (Put.s (Put.s (Put.s Put.z)))))))))))))) ?_
  · rfl
  · show (tab (win wants lead) wants.length).length < 16777216
    omega
  · intro i y z hy hz
    rw [hy] at hz
    obtain rfl := Option.some.inj hz
    exact ⟨_, _, (g_name (Put.s (Put.s (Put.s (Put.s (Put.s (Put.s (Put.s (Put.s (Put.s (Put.s (Put.s (Put.s (Put.s (Put.s (Put.s (Put.s (Put.s Put.z)))))))))))))))))), by simp, (d_intI (d_name (Has.s (Has.s (Has.s (Has.s (Has.s (Has.s (Has.s (Has.s (Has.s (Has.s (Has.s (Has.s (Has.s (Has.s (Has.s (Has.s (Has.s Has.z)))))))))))))))))) Bl.int)⟩
  generalize mxl (tab (win wants lead) wants.length) = top at ht ht0 ht2
  have hsc : ∀ h : Int, 0 ≤ h → (scl wants lead h).length = wants.length ∧ (∀ x ∈ scl wants lead h, 0 ≤ x) := fun h hh => ⟨scl_len, fun x hx => by
    obtain ⟨d, hd, rfl⟩ := tab_mem.mp hx
    have r := (rs_eq hwx hh (lead := lead) (k := d)).2
    have c := cm_nn hwx hh (lead := lead) (d := d)
    unfold sm
    omega⟩
  have hcv : ∀ h : Int, 0 ≤ h → cov wants (scl wants lead h) = decide (top ≤ h) := fun h hh => cov_eq hwx hh hlead.1 wl ht ht2
  refine ds_asg (d_call0 (t := m1) ((wants, (lead, v_height))) M1 (Nat.le_of_ble_eq_true rfl) (a_cons (d_name (Has.s (Has.s (Has.s (Has.s (Has.s (Has.s (Has.s Has.z)))))))) (a_cons (d_name (Has.s (Has.s (Has.s (Has.s (Has.s (Has.s (Has.s (Has.s Has.z))))))))) (a_cons (d_name (Has.s (Has.s (Has.s (Has.s (Has.s (Has.s (Has.s (Has.s (Has.s (Has.s Has.z))))))))))) a_nil))) rfl ⟨by show wants.length ≤ 100; omega, hlead.1⟩) (Put.s (Put.s (Put.s (Put.s (Put.s (Put.s (Put.s (Put.s (Put.s (Put.s (Put.s (Put.s (Put.s (Put.s (Put.s Put.z))))))))))))))) ?_
  refine ds_ifF (t_notD (t_val (d_call0 (t := m4) (((wants, prices), ((fixed, night), (scl wants lead v_height, decide (top ≤ v_height))))) M4 (Nat.le_of_ble_eq_true rfl) (a_cons (d_name (Has.s (Has.s (Has.s (Has.s (Has.s (Has.s (Has.s Has.z)))))))) (a_cons (d_name (Has.s (Has.s (Has.s (Has.s (Has.s (Has.s (Has.s (Has.s (Has.s (Has.s (Has.s Has.z)))))))))))) (a_cons (d_name (Has.s (Has.s (Has.s (Has.s (Has.s (Has.s (Has.s (Has.s (Has.s (Has.s (Has.s (Has.s Has.z))))))))))))) (a_cons (d_name (Has.s (Has.s (Has.s (Has.s (Has.s (Has.s (Has.s (Has.s (Has.s (Has.s (Has.s (Has.s (Has.s Has.z)))))))))))))) (a_cons (d_name (Has.s (Has.s (Has.s (Has.s (Has.s (Has.s (Has.s (Has.s (Has.s (Has.s (Has.s (Has.s (Has.s (Has.s (Has.s Has.z)))))))))))))))) (a_cons (d_ge (d_name (Has.s (Has.s (Has.s (Has.s (Has.s (Has.s (Has.s (Has.s (Has.s (Has.s Has.z))))))))))) (d_name (Has.s (Has.s (Has.s (Has.s (Has.s (Has.s (Has.s (Has.s (Has.s (Has.s (Has.s (Has.s (Has.s (Has.s Has.z)))))))))))))))) a_nil)))))) rfl ⟨hOk, (hsc _ h_height).1, (hsc _ h_height).2, wl, (hcv _ h_height).symm⟩))) rfl (ds_next ?_)
  refine ds_asg (d_call0 (t := m1) ((wants, (lead, top))) M1 (Nat.le_of_ble_eq_true rfl) (a_cons (d_name (Has.s (Has.s (Has.s (Has.s (Has.s (Has.s (Has.s Has.z)))))))) (a_cons (d_name (Has.s (Has.s (Has.s (Has.s (Has.s (Has.s (Has.s (Has.s Has.z))))))))) (a_cons (d_name (Has.s (Has.s (Has.s (Has.s (Has.s (Has.s (Has.s (Has.s (Has.s (Has.s (Has.s (Has.s (Has.s (Has.s Has.z))))))))))))))) a_nil))) rfl ⟨by show wants.length ≤ 100; omega, hlead.1⟩) (Put.s (Put.s (Put.s (Put.s (Put.s (Put.s (Put.s (Put.s (Put.s (Put.s (Put.s (Put.s (Put.s (Put.s (Put.s Put.z))))))))))))))) ?_
  refine ds_ifF (t_notD (t_val (d_call0 (t := m4) (((wants, prices), ((fixed, night), (scl wants lead top, true)))) M4 (Nat.le_of_ble_eq_true rfl) (a_cons (d_name (Has.s (Has.s (Has.s (Has.s (Has.s (Has.s (Has.s Has.z)))))))) (a_cons (d_name (Has.s (Has.s (Has.s (Has.s (Has.s (Has.s (Has.s (Has.s (Has.s (Has.s (Has.s Has.z)))))))))))) (a_cons (d_name (Has.s (Has.s (Has.s (Has.s (Has.s (Has.s (Has.s (Has.s (Has.s (Has.s (Has.s (Has.s Has.z))))))))))))) (a_cons (d_name (Has.s (Has.s (Has.s (Has.s (Has.s (Has.s (Has.s (Has.s (Has.s (Has.s (Has.s (Has.s (Has.s Has.z)))))))))))))) (a_cons (d_name (Has.s (Has.s (Has.s (Has.s (Has.s (Has.s (Has.s (Has.s (Has.s (Has.s (Has.s (Has.s (Has.s (Has.s (Has.s Has.z)))))))))))))))) (a_cons d_bool a_nil)))))) rfl ⟨hOk, (hsc _ ht0).1, (hsc _ ht0).2, wl, by rw [hcv _ ht0]; exact (decide_eq_true (Int.le_refl _)).symm⟩))) rfl (ds_next ?_)
  have hm0 : (0 : Int) ≤ max 0 (top - 1) := by omega
  refine ds_asg (d_call0 (t := m1) ((wants, (lead, max 0 (top - 1)))) M1 (Nat.le_of_ble_eq_true rfl) (a_cons (d_name (Has.s (Has.s (Has.s (Has.s (Has.s (Has.s (Has.s Has.z)))))))) (a_cons (d_name (Has.s (Has.s (Has.s (Has.s (Has.s (Has.s (Has.s (Has.s Has.z))))))))) (a_cons (d_max2 d_int (d_sub (d_name (Has.s (Has.s (Has.s (Has.s (Has.s (Has.s (Has.s (Has.s (Has.s (Has.s (Has.s (Has.s (Has.s (Has.s Has.z))))))))))))))) d_int) Bl.max) a_nil))) rfl ⟨by show wants.length ≤ 100; omega, hlead.1⟩) (Put.s (Put.s (Put.s (Put.s (Put.s (Put.s (Put.s (Put.s (Put.s (Put.s (Put.s (Put.s (Put.s (Put.s (Put.s Put.z))))))))))))))) ?_
  refine ds_ifF (t_notD (t_val (d_call0 (t := m4) (((wants, prices), ((fixed, night), (scl wants lead (max 0 (top - 1)), decide (top = 0))))) M4 (Nat.le_of_ble_eq_true rfl) (a_cons (d_name (Has.s (Has.s (Has.s (Has.s (Has.s (Has.s (Has.s Has.z)))))))) (a_cons (d_name (Has.s (Has.s (Has.s (Has.s (Has.s (Has.s (Has.s (Has.s (Has.s (Has.s (Has.s Has.z)))))))))))) (a_cons (d_name (Has.s (Has.s (Has.s (Has.s (Has.s (Has.s (Has.s (Has.s (Has.s (Has.s (Has.s (Has.s Has.z))))))))))))) (a_cons (d_name (Has.s (Has.s (Has.s (Has.s (Has.s (Has.s (Has.s (Has.s (Has.s (Has.s (Has.s (Has.s (Has.s Has.z)))))))))))))) (a_cons (d_name (Has.s (Has.s (Has.s (Has.s (Has.s (Has.s (Has.s (Has.s (Has.s (Has.s (Has.s (Has.s (Has.s (Has.s (Has.s Has.z)))))))))))))))) (a_cons (d_eqI (d_name (Has.s (Has.s (Has.s (Has.s (Has.s (Has.s (Has.s (Has.s (Has.s (Has.s (Has.s (Has.s (Has.s (Has.s Has.z))))))))))))))) d_int) a_nil)))))) rfl ⟨hOk, (hsc _ hm0).1, (hsc _ hm0).2, wl, by rw [hcv _ hm0]; exact decide_eq_decide.mpr (by omega)⟩))) rfl (ds_next ?_)
  exact ds_ret0 hR (d_call0 (t := l8) ((wants, (lead, v_height))) L8 (Nat.le_of_ble_eq_true rfl) (a_cons (d_name (Has.s (Has.s (Has.s (Has.s (Has.s (Has.s (Has.s Has.z)))))))) (a_cons (d_name (Has.s (Has.s (Has.s (Has.s (Has.s (Has.s (Has.s (Has.s Has.z))))))))) (a_cons (d_name (Has.s (Has.s (Has.s (Has.s (Has.s (Has.s (Has.s (Has.s (Has.s (Has.s Has.z))))))))))) (a_cons (d_name (Has.s (Has.s (Has.s (Has.s (Has.s (Has.s (Has.s (Has.s (Has.s Has.z)))))))))) a_nil)))) rfl ⟨by show wants.length ≤ 100; omega, hlead.1, h_height⟩) rfl
end
end K27

set_option maxHeartbeats 4000000
namespace K27
open PySem PySem.Spec PyProof.Rows L2 ZZ
open Evl (Ex)
def stI : Stmt := match stm 3 with | .ClassDef _ _ _ b _ _ _ _ _ _ _ => b.getD 0 (.Pass ⟨0, 0, 0, 0⟩) | s => s
/-! ### what the top has written; the law's own head -/
theorem all_mk {l : PySem.W.OpenLaw} {w : World} {K : PySem.W.Frag} {h : Heap} {mg : Str → Option Value} {fa : Addr} (X : K.In h) (G : h.Ns mainGlobals mg) (hfa : mg "law" = some (.ref fa))
    {f6 : Addr} {od6 an6 : Option Addr} {sl6 : Array (Option Value)} {oc6 kV6 dc6 pm6 cd6 ct6 : Value}
    (a6 : PySem.W.nsIn K mainGlobals "level_rows" = some (some (.ref f6))) (l6 : K.lookup f6 = some ⟨oc6, od6, .func (PySem.W.fnOf "level_rows" "level_rows" (defArgs (stm 6)) (defBody (stm 6)) (defScope (stm 6)) .none kV6 dc6 pm6 an6 cd6 ct6), sl6⟩) (c6 : PySem.W.codeIn K cd6 "level_rows" = true) (k6 : PySem.W.keepIn K (.ref f6) = true)
    {f7 : Addr} {od7 an7 : Option Addr} {sl7 : Array (Option Value)} {oc7 kV7 dc7 pm7 cd7 ct7 : Value}
    (a7 : PySem.W.nsIn K mainGlobals "owed_days" = some (some (.ref f7))) (l7 : K.lookup f7 = some ⟨oc7, od7, .func (PySem.W.fnOf "owed_days" "owed_days" (defArgs (stm 7)) (defBody (stm 7)) (defScope (stm 7)) .none kV7 dc7 pm7 an7 cd7 ct7), sl7⟩) (c7 : PySem.W.codeIn K cd7 "owed_days" = true) (k7 : PySem.W.keepIn K (.ref f7) = true)
    {f8 : Addr} {od8 an8 : Option Addr} {sl8 : Array (Option Value)} {oc8 kV8 dc8 pm8 cd8 ct8 : Value}
    (a8 : PySem.W.nsIn K mainGlobals "window_sums" = some (some (.ref f8))) (l8 : K.lookup f8 = some ⟨oc8, od8, .func (PySem.W.fnOf "window_sums" "window_sums" (defArgs (stm 8)) (defBody (stm 8)) (defScope (stm 8)) .none kV8 dc8 pm8 an8 cd8 ct8), sl8⟩) (c8 : PySem.W.codeIn K cd8 "window_sums" = true) (k8 : PySem.W.keepIn K (.ref f8) = true)
    {f9 : Addr} {od9 an9 : Option Addr} {sl9 : Array (Option Value)} {oc9 kV9 dc9 pm9 cd9 ct9 : Value}
    (a9 : PySem.W.nsIn K mainGlobals "least_level" = some (some (.ref f9))) (l9 : K.lookup f9 = some ⟨oc9, od9, .func (PySem.W.fnOf "least_level" "least_level" (defArgs (stm 9)) (defBody (stm 9)) (defScope (stm 9)) .none kV9 dc9 pm9 an9 cd9 ct9), sl9⟩) (c9 : PySem.W.codeIn K cd9 "least_level" = true) (k9 : PySem.W.keepIn K (.ref f9) = true)
    {f11 : Addr} {od11 an11 : Option Addr} {sl11 : Array (Option Value)} {oc11 kV11 dc11 pm11 cd11 ct11 : Value}
    (a11 : PySem.W.nsIn K mainGlobals "is_amount_of_pieces" = some (some (.ref f11))) (l11 : K.lookup f11 = some ⟨oc11, od11, .func (PySem.W.fnOf "is_amount_of_pieces" "is_amount_of_pieces" (defArgs (stm 11)) (defBody (stm 11)) (defScope (stm 11)) .none kV11 dc11 pm11 an11 cd11 ct11), sl11⟩) (c11 : PySem.W.codeIn K cd11 "is_amount_of_pieces" = true) (k11 : PySem.W.keepIn K (.ref f11) = true)
    {f12 : Addr} {od12 an12 : Option Addr} {sl12 : Array (Option Value)} {oc12 kV12 dc12 pm12 cd12 ct12 : Value}
    (a12 : PySem.W.nsIn K mainGlobals "is_scheme" = some (some (.ref f12))) (l12 : K.lookup f12 = some ⟨oc12, od12, .func (PySem.W.fnOf "is_scheme" "is_scheme" (defArgs (stm 12)) (defBody (stm 12)) (defScope (stm 12)) .none kV12 dc12 pm12 an12 cd12 ct12), sl12⟩) (c12 : PySem.W.codeIn K cd12 "is_scheme" = true) (k12 : PySem.W.keepIn K (.ref f12) = true)
    {f13 : Addr} {od13 an13 : Option Addr} {sl13 : Array (Option Value)} {oc13 kV13 dc13 pm13 cd13 ct13 : Value}
    (a13 : PySem.W.nsIn K mainGlobals "nights_of" = some (some (.ref f13))) (l13 : K.lookup f13 = some ⟨oc13, od13, .func (PySem.W.fnOf "nights_of" "nights_of" (defArgs (stm 13)) (defBody (stm 13)) (defScope (stm 13)) .none kV13 dc13 pm13 an13 cd13 ct13), sl13⟩) (c13 : PySem.W.codeIn K cd13 "nights_of" = true) (k13 : PySem.W.keepIn K (.ref f13) = true)
    {f14 : Addr} {od14 an14 : Option Addr} {sl14 : Array (Option Value)} {oc14 kV14 dc14 pm14 cd14 ct14 : Value}
    (a14 : PySem.W.nsIn K mainGlobals "covers" = some (some (.ref f14))) (l14 : K.lookup f14 = some ⟨oc14, od14, .func (PySem.W.fnOf "covers" "covers" (defArgs (stm 14)) (defBody (stm 14)) (defScope (stm 14)) .none kV14 dc14 pm14 an14 cd14 ct14), sl14⟩) (c14 : PySem.W.codeIn K cd14 "covers" = true) (k14 : PySem.W.keepIn K (.ref f14) = true)
    {f15 : Addr} {od15 an15 : Option Addr} {sl15 : Array (Option Value)} {oc15 kV15 dc15 pm15 cd15 ct15 : Value}
    (a15 : PySem.W.nsIn K mainGlobals "order_cost" = some (some (.ref f15))) (l15 : K.lookup f15 = some ⟨oc15, od15, .func (PySem.W.fnOf "order_cost" "order_cost" (defArgs (stm 15)) (defBody (stm 15)) (defScope (stm 15)) .none kV15 dc15 pm15 an15 cd15 ct15), sl15⟩) (c15 : PySem.W.codeIn K cd15 "order_cost" = true) (k15 : PySem.W.keepIn K (.ref f15) = true)
    {f16 : Addr} {od16 an16 : Option Addr} {sl16 : Array (Option Value)} {oc16 kV16 dc16 pm16 cd16 ct16 : Value}
    (a16 : PySem.W.nsIn K mainGlobals "scheme_cost" = some (some (.ref f16))) (l16 : K.lookup f16 = some ⟨oc16, od16, .func (PySem.W.fnOf "scheme_cost" "scheme_cost" (defArgs (stm 16)) (defBody (stm 16)) (defScope (stm 16)) .none kV16 dc16 pm16 an16 cd16 ct16), sl16⟩) (c16 : PySem.W.codeIn K cd16 "scheme_cost" = true) (k16 : PySem.W.keepIn K (.ref f16) = true)
    {f17 : Addr} {od17 an17 : Option Addr} {sl17 : Array (Option Value)} {oc17 kV17 dc17 pm17 cd17 ct17 : Value}
    (a17 : PySem.W.nsIn K mainGlobals "pieces_in" = some (some (.ref f17))) (l17 : K.lookup f17 = some ⟨oc17, od17, .func (PySem.W.fnOf "pieces_in" "pieces_in" (defArgs (stm 17)) (defBody (stm 17)) (defScope (stm 17)) .none kV17 dc17 pm17 an17 cd17 ct17), sl17⟩) (c17 : PySem.W.codeIn K cd17 "pieces_in" = true) (k17 : PySem.W.keepIn K (.ref f17) = true)
    {f18 : Addr} {od18 an18 : Option Addr} {sl18 : Array (Option Value)} {oc18 kV18 dc18 pm18 cd18 ct18 : Value}
    (a18 : PySem.W.nsIn K mainGlobals "span_cost" = some (some (.ref f18))) (l18 : K.lookup f18 = some ⟨oc18, od18, .func (PySem.W.fnOf "span_cost" "span_cost" (defArgs (stm 18)) (defBody (stm 18)) (defScope (stm 18)) .none kV18 dc18 pm18 an18 cd18 ct18), sl18⟩) (c18 : PySem.W.codeIn K cd18 "span_cost" = true) (k18 : PySem.W.keepIn K (.ref f18) = true)
    {f19 : Addr} {od19 an19 : Option Addr} {sl19 : Array (Option Value)} {oc19 kV19 dc19 pm19 cd19 ct19 : Value}
    (a19 : PySem.W.nsIn K mainGlobals "least_costs" = some (some (.ref f19))) (l19 : K.lookup f19 = some ⟨oc19, od19, .func (PySem.W.fnOf "least_costs" "least_costs" (defArgs (stm 19)) (defBody (stm 19)) (defScope (stm 19)) .none kV19 dc19 pm19 an19 cd19 ct19), sl19⟩) (c19 : PySem.W.codeIn K cd19 "least_costs" = true) (k19 : PySem.W.keepIn K (.ref f19) = true)
    {f20 : Addr} {od20 an20 : Option Addr} {sl20 : Array (Option Value)} {oc20 kV20 dc20 pm20 cd20 ct20 : Value}
    (a20 : PySem.W.nsIn K mainGlobals "least_cost" = some (some (.ref f20))) (l20 : K.lookup f20 = some ⟨oc20, od20, .func (PySem.W.fnOf "least_cost" "least_cost" (defArgs (stm 20)) (defBody (stm 20)) (defScope (stm 20)) .none kV20 dc20 pm20 an20 cd20 ct20), sl20⟩) (c20 : PySem.W.codeIn K cd20 "least_cost" = true) (k20 : PySem.W.keepIn K (.ref f20) = true)
    {f21 : Addr} {od21 an21 : Option Addr} {sl21 : Array (Option Value)} {oc21 kV21 dc21 pm21 cd21 ct21 : Value}
    (a21 : PySem.W.nsIn K mainGlobals "order_days" = some (some (.ref f21))) (l21 : K.lookup f21 = some ⟨oc21, od21, .func (PySem.W.fnOf "order_days" "order_days" (defArgs (stm 21)) (defBody (stm 21)) (defScope (stm 21)) .none kV21 dc21 pm21 an21 cd21 ct21), sl21⟩) (c21 : PySem.W.codeIn K cd21 "order_days" = true) (k21 : PySem.W.keepIn K (.ref f21) = true)
    {f23 : Addr} {od23 an23 : Option Addr} {sl23 : Array (Option Value)} {oc23 kV23 dc23 pm23 cd23 ct23 : Value}
    (a23 : PySem.W.nsIn K mainGlobals "reduced" = some (some (.ref f23))) (l23 : K.lookup f23 = some ⟨oc23, od23, .func (PySem.W.fnOf "reduced" "reduced" (defArgs (stm 23)) (defBody (stm 23)) (defScope (stm 23)) .none kV23 dc23 pm23 an23 cd23 ct23), sl23⟩) (c23 : PySem.W.codeIn K cd23 "reduced" = true) (k23 : PySem.W.keepIn K (.ref f23) = true)
    {f24 : Addr} {od24 an24 : Option Addr} {sl24 : Array (Option Value)} {oc24 kV24 dc24 pm24 cd24 ct24 : Value}
    (a24 : PySem.W.nsIn K mainGlobals "added" = some (some (.ref f24))) (l24 : K.lookup f24 = some ⟨oc24, od24, .func (PySem.W.fnOf "added" "added" (defArgs (stm 24)) (defBody (stm 24)) (defScope (stm 24)) .none kV24 dc24 pm24 an24 cd24 ct24), sl24⟩) (c24 : PySem.W.codeIn K cd24 "added" = true) (k24 : PySem.W.keepIn K (.ref f24) = true)
    {f25 : Addr} {od25 an25 : Option Addr} {sl25 : Array (Option Value)} {oc25 kV25 dc25 pm25 cd25 ct25 : Value}
    (a25 : PySem.W.nsIn K mainGlobals "multiplied" = some (some (.ref f25))) (l25 : K.lookup f25 = some ⟨oc25, od25, .func (PySem.W.fnOf "multiplied" "multiplied" (defArgs (stm 25)) (defBody (stm 25)) (defScope (stm 25)) .none kV25 dc25 pm25 an25 cd25 ct25), sl25⟩) (c25 : PySem.W.codeIn K cd25 "multiplied" = true) (k25 : PySem.W.keepIn K (.ref f25) = true)
    {f26 : Addr} {od26 an26 : Option Addr} {sl26 : Array (Option Value)} {oc26 kV26 dc26 pm26 cd26 ct26 : Value}
    (a26 : PySem.W.nsIn K mainGlobals "less" = some (some (.ref f26))) (l26 : K.lookup f26 = some ⟨oc26, od26, .func (PySem.W.fnOf "less" "less" (defArgs (stm 26)) (defBody (stm 26)) (defScope (stm 26)) .none kV26 dc26 pm26 an26 cd26 ct26), sl26⟩) (c26 : PySem.W.codeIn K cd26 "less" = true) (k26 : PySem.W.keepIn K (.ref f26) = true)
    {f27 : Addr} {od27 an27 : Option Addr} {sl27 : Array (Option Value)} {oc27 kV27 dc27 pm27 cd27 ct27 : Value}
    (a27 : PySem.W.nsIn K mainGlobals "squared" = some (some (.ref f27))) (l27 : K.lookup f27 = some ⟨oc27, od27, .func (PySem.W.fnOf "squared" "squared" (defArgs (stm 27)) (defBody (stm 27)) (defScope (stm 27)) .none kV27 dc27 pm27 an27 cd27 ct27), sl27⟩) (c27 : PySem.W.codeIn K cd27 "squared" = true) (k27 : PySem.W.keepIn K (.ref f27) = true)
    {f28 : Addr} {od28 an28 : Option Addr} {sl28 : Array (Option Value)} {oc28 kV28 dc28 pm28 cd28 ct28 : Value}
    (a28 : PySem.W.nsIn K mainGlobals "summed" = some (some (.ref f28))) (l28 : K.lookup f28 = some ⟨oc28, od28, .func (PySem.W.fnOf "summed" "summed" (defArgs (stm 28)) (defBody (stm 28)) (defScope (stm 28)) .none kV28 dc28 pm28 an28 cd28 ct28), sl28⟩) (c28 : PySem.W.codeIn K cd28 "summed" = true) (k28 : PySem.W.keepIn K (.ref f28) = true)
    {f29 : Addr} {od29 an29 : Option Addr} {sl29 : Array (Option Value)} {oc29 kV29 dc29 pm29 cd29 ct29 : Value}
    (a29 : PySem.W.nsIn K mainGlobals "mean_last" = some (some (.ref f29))) (l29 : K.lookup f29 = some ⟨oc29, od29, .func (PySem.W.fnOf "mean_last" "mean_last" (defArgs (stm 29)) (defBody (stm 29)) (defScope (stm 29)) .none kV29 dc29 pm29 an29 cd29 ct29), sl29⟩) (c29 : PySem.W.codeIn K cd29 "mean_last" = true) (k29 : PySem.W.keepIn K (.ref f29) = true)
    {f30 : Addr} {od30 an30 : Option Addr} {sl30 : Array (Option Value)} {oc30 kV30 dc30 pm30 cd30 ct30 : Value}
    (a30 : PySem.W.nsIn K mainGlobals "miss_sum" = some (some (.ref f30))) (l30 : K.lookup f30 = some ⟨oc30, od30, .func (PySem.W.fnOf "miss_sum" "miss_sum" (defArgs (stm 30)) (defBody (stm 30)) (defScope (stm 30)) .none kV30 dc30 pm30 an30 cd30 ct30), sl30⟩) (c30 : PySem.W.codeIn K cd30 "miss_sum" = true) (k30 : PySem.W.keepIn K (.ref f30) = true)
    {f31 : Addr} {od31 an31 : Option Addr} {sl31 : Array (Option Value)} {oc31 kV31 dc31 pm31 cd31 ct31 : Value}
    (a31 : PySem.W.nsIn K mainGlobals "best_many" = some (some (.ref f31))) (l31 : K.lookup f31 = some ⟨oc31, od31, .func (PySem.W.fnOf "best_many" "best_many" (defArgs (stm 31)) (defBody (stm 31)) (defScope (stm 31)) .none kV31 dc31 pm31 an31 cd31 ct31), sl31⟩) (c31 : PySem.W.codeIn K cd31 "best_many" = true) (k31 : PySem.W.keepIn K (.ref f31) = true)
    {f32 : Addr} {od32 an32 : Option Addr} {sl32 : Array (Option Value)} {oc32 kV32 dc32 pm32 cd32 ct32 : Value}
    (a32 : PySem.W.nsIn K mainGlobals "next_want" = some (some (.ref f32))) (l32 : K.lookup f32 = some ⟨oc32, od32, .func (PySem.W.fnOf "next_want" "next_want" (defArgs (stm 32)) (defBody (stm 32)) (defScope (stm 32)) .none kV32 dc32 pm32 an32 cd32 ct32), sl32⟩) (c32 : PySem.W.codeIn K cd32 "next_want" = true) (k32 : PySem.W.keepIn K (.ref f32) = true)
    {f34 : Addr} {od34 an34 : Option Addr} {sl34 : Array (Option Value)} {oc34 kV34 dc34 pm34 cd34 ct34 : Value}
    (a34 : PySem.W.nsIn K mainGlobals "_law_pool" = some (some (.ref f34))) (l34 : K.lookup f34 = some ⟨oc34, od34, .func (PySem.W.fnOf "_law_pool" "_law_pool" (defArgs (stm 34)) (defBody (stm 34)) (defScope (stm 34)) .none kV34 dc34 pm34 an34 cd34 ct34), sl34⟩) (c34 : PySem.W.codeIn K cd34 "_law_pool" = true) (k34 : PySem.W.keepIn K (.ref f34) = true)
    {f35 : Addr} {od35 an35 : Option Addr} {sl35 : Array (Option Value)} {oc35 kV35 dc35 pm35 cd35 ct35 : Value}
    (a35 : PySem.W.nsIn K mainGlobals "_law_draw" = some (some (.ref f35))) (l35 : K.lookup f35 = some ⟨oc35, od35, .func (PySem.W.fnOf "_law_draw" "_law_draw" (defArgs (stm 35)) (defBody (stm 35)) (defScope (stm 35)) .none kV35 dc35 pm35 an35 cd35 ct35), sl35⟩) (c35 : PySem.W.codeIn K cd35 "_law_draw" = true) (k35 : PySem.W.keepIn K (.ref f35) = true)
    {f36 : Addr} {od36 an36 : Option Addr} {sl36 : Array (Option Value)} {oc36 kV36 dc36 pm36 cd36 ct36 : Value}
    (a36 : PySem.W.nsIn K mainGlobals "_law_same" = some (some (.ref f36))) (l36 : K.lookup f36 = some ⟨oc36, od36, .func (PySem.W.fnOf "_law_same" "_law_same" (defArgs (stm 36)) (defBody (stm 36)) (defScope (stm 36)) .none kV36 dc36 pm36 an36 cd36 ct36), sl36⟩) (c36 : PySem.W.codeIn K cd36 "_law_same" = true) (k36 : PySem.W.keepIn K (.ref f36) = true)
    {f37 : Addr} {od37 an37 : Option Addr} {sl37 : Array (Option Value)} {oc37 kV37 dc37 pm37 cd37 ct37 : Value}
    (a37 : PySem.W.nsIn K mainGlobals "_law_fraction" = some (some (.ref f37))) (l37 : K.lookup f37 = some ⟨oc37, od37, .func (PySem.W.fnOf "_law_fraction" "_law_fraction" (defArgs (stm 37)) (defBody (stm 37)) (defScope (stm 37)) .none kV37 dc37 pm37 an37 cd37 ct37), sl37⟩) (c37 : PySem.W.codeIn K cd37 "_law_fraction" = true) (k37 : PySem.W.keepIn K (.ref f37) = true)
    {f38 : Addr} {od38 an38 : Option Addr} {sl38 : Array (Option Value)} {oc38 kV38 dc38 pm38 cd38 ct38 : Value}
    (a38 : PySem.W.nsIn K mainGlobals "_law_numbers" = some (some (.ref f38))) (l38 : K.lookup f38 = some ⟨oc38, od38, .func (PySem.W.fnOf "_law_numbers" "_law_numbers" (defArgs (stm 38)) (defBody (stm 38)) (defScope (stm 38)) .none kV38 dc38 pm38 an38 cd38 ct38), sl38⟩) (c38 : PySem.W.codeIn K cd38 "_law_numbers" = true) (k38 : PySem.W.keepIn K (.ref f38) = true)
    {f39 : Addr} {od39 an39 : Option Addr} {sl39 : Array (Option Value)} {oc39 kV39 dc39 pm39 cd39 ct39 : Value}
    (a39 : PySem.W.nsIn K mainGlobals "_law_miss" = some (some (.ref f39))) (l39 : K.lookup f39 = some ⟨oc39, od39, .func (PySem.W.fnOf "_law_miss" "_law_miss" (defArgs (stm 39)) (defBody (stm 39)) (defScope (stm 39)) .none kV39 dc39 pm39 an39 cd39 ct39), sl39⟩) (c39 : PySem.W.codeIn K cd39 "_law_miss" = true) (k39 : PySem.W.keepIn K (.ref f39) = true)
    {f40 : Addr} {od40 an40 : Option Addr} {sl40 : Array (Option Value)} {oc40 kV40 dc40 pm40 cd40 ct40 : Value}
    (a40 : PySem.W.nsIn K mainGlobals "_law_best" = some (some (.ref f40))) (l40 : K.lookup f40 = some ⟨oc40, od40, .func (PySem.W.fnOf "_law_best" "_law_best" (defArgs (stm 40)) (defBody (stm 40)) (defScope (stm 40)) .none kV40 dc40 pm40 an40 cd40 ct40), sl40⟩) (c40 : PySem.W.codeIn K cd40 "_law_best" = true) (k40 : PySem.W.keepIn K (.ref f40) = true)
    {f41 : Addr} {od41 an41 : Option Addr} {sl41 : Array (Option Value)} {oc41 kV41 dc41 pm41 cd41 ct41 : Value}
    (a41 : PySem.W.nsIn K mainGlobals "_law_outlook_holds" = some (some (.ref f41))) (l41 : K.lookup f41 = some ⟨oc41, od41, .func (PySem.W.fnOf "_law_outlook_holds" "_law_outlook_holds" (defArgs (stm 41)) (defBody (stm 41)) (defScope (stm 41)) .none kV41 dc41 pm41 an41 cd41 ct41), sl41⟩) (c41 : PySem.W.codeIn K cd41 "_law_outlook_holds" = true) (k41 : PySem.W.keepIn K (.ref f41) = true)
    {f42 : Addr} {od42 an42 : Option Addr} {sl42 : Array (Option Value)} {oc42 kV42 dc42 pm42 cd42 ct42 : Value}
    (a42 : PySem.W.nsIn K mainGlobals "_law_windows" = some (some (.ref f42))) (l42 : K.lookup f42 = some ⟨oc42, od42, .func (PySem.W.fnOf "_law_windows" "_law_windows" (defArgs (stm 42)) (defBody (stm 42)) (defScope (stm 42)) .none kV42 dc42 pm42 an42 cd42 ct42), sl42⟩) (c42 : PySem.W.codeIn K cd42 "_law_windows" = true) (k42 : PySem.W.keepIn K (.ref f42) = true)
    {f43 : Addr} {od43 an43 : Option Addr} {sl43 : Array (Option Value)} {oc43 kV43 dc43 pm43 cd43 ct43 : Value}
    (a43 : PySem.W.nsIn K mainGlobals "_law_level" = some (some (.ref f43))) (l43 : K.lookup f43 = some ⟨oc43, od43, .func (PySem.W.fnOf "_law_level" "_law_level" (defArgs (stm 43)) (defBody (stm 43)) (defScope (stm 43)) .none kV43 dc43 pm43 an43 cd43 ct43), sl43⟩) (c43 : PySem.W.codeIn K cd43 "_law_level" = true) (k43 : PySem.W.keepIn K (.ref f43) = true)
    {f44 : Addr} {od44 an44 : Option Addr} {sl44 : Array (Option Value)} {oc44 kV44 dc44 pm44 cd44 ct44 : Value}
    (a44 : PySem.W.nsIn K mainGlobals "_law_rows_hold" = some (some (.ref f44))) (l44 : K.lookup f44 = some ⟨oc44, od44, .func (PySem.W.fnOf "_law_rows_hold" "_law_rows_hold" (defArgs (stm 44)) (defBody (stm 44)) (defScope (stm 44)) .none kV44 dc44 pm44 an44 cd44 ct44), sl44⟩) (c44 : PySem.W.codeIn K cd44 "_law_rows_hold" = true) (k44 : PySem.W.keepIn K (.ref f44) = true)
    {f45 : Addr} {od45 an45 : Option Addr} {sl45 : Array (Option Value)} {oc45 kV45 dc45 pm45 cd45 ct45 : Value}
    (a45 : PySem.W.nsIn K mainGlobals "_law_levels_hold" = some (some (.ref f45))) (l45 : K.lookup f45 = some ⟨oc45, od45, .func (PySem.W.fnOf "_law_levels_hold" "_law_levels_hold" (defArgs (stm 45)) (defBody (stm 45)) (defScope (stm 45)) .none kV45 dc45 pm45 an45 cd45 ct45), sl45⟩) (c45 : PySem.W.codeIn K cd45 "_law_levels_hold" = true) (k45 : PySem.W.keepIn K (.ref f45) = true)
    {f46 : Addr} {od46 an46 : Option Addr} {sl46 : Array (Option Value)} {oc46 kV46 dc46 pm46 cd46 ct46 : Value}
    (a46 : PySem.W.nsIn K mainGlobals "_law_scheme" = some (some (.ref f46))) (l46 : K.lookup f46 = some ⟨oc46, od46, .func (PySem.W.fnOf "_law_scheme" "_law_scheme" (defArgs (stm 46)) (defBody (stm 46)) (defScope (stm 46)) .none kV46 dc46 pm46 an46 cd46 ct46), sl46⟩) (c46 : PySem.W.codeIn K cd46 "_law_scheme" = true) (k46 : PySem.W.keepIn K (.ref f46) = true)
    {f47 : Addr} {od47 an47 : Option Addr} {sl47 : Array (Option Value)} {oc47 kV47 dc47 pm47 cd47 ct47 : Value}
    (a47 : PySem.W.nsIn K mainGlobals "_law_costs" = some (some (.ref f47))) (l47 : K.lookup f47 = some ⟨oc47, od47, .func (PySem.W.fnOf "_law_costs" "_law_costs" (defArgs (stm 47)) (defBody (stm 47)) (defScope (stm 47)) .none kV47 dc47 pm47 an47 cd47 ct47), sl47⟩) (c47 : PySem.W.codeIn K cd47 "_law_costs" = true) (k47 : PySem.W.keepIn K (.ref f47) = true)
    {f48 : Addr} {od48 an48 : Option Addr} {sl48 : Array (Option Value)} {oc48 kV48 dc48 pm48 cd48 ct48 : Value}
    (a48 : PySem.W.nsIn K mainGlobals "_law_costs_hold" = some (some (.ref f48))) (l48 : K.lookup f48 = some ⟨oc48, od48, .func (PySem.W.fnOf "_law_costs_hold" "_law_costs_hold" (defArgs (stm 48)) (defBody (stm 48)) (defScope (stm 48)) .none kV48 dc48 pm48 an48 cd48 ct48), sl48⟩) (c48 : PySem.W.codeIn K cd48 "_law_costs_hold" = true) (k48 : PySem.W.keepIn K (.ref f48) = true)
    {f49 : Addr} {od49 an49 : Option Addr} {sl49 : Array (Option Value)} {oc49 kV49 dc49 pm49 cd49 ct49 : Value}
    (a49 : PySem.W.nsIn K mainGlobals "_law_scheme_holds" = some (some (.ref f49))) (l49 : K.lookup f49 = some ⟨oc49, od49, .func (PySem.W.fnOf "_law_scheme_holds" "_law_scheme_holds" (defArgs (stm 49)) (defBody (stm 49)) (defScope (stm 49)) .none kV49 dc49 pm49 an49 cd49 ct49), sl49⟩) (c49 : PySem.W.codeIn K cd49 "_law_scheme_holds" = true) (k49 : PySem.W.keepIn K (.ref f49) = true)
    {f50 : Addr} {od50 an50 : Option Addr} {sl50 : Array (Option Value)} {oc50 kV50 dc50 pm50 cd50 ct50 : Value}
    (a50 : PySem.W.nsIn K mainGlobals "law" = some (some (.ref f50))) (l50 : K.lookup f50 = some ⟨oc50, od50, .func (PySem.W.fnOf "law" "law" (defArgs (stm 50)) (defBody (stm 50)) (defScope (stm 50)) .none kV50 dc50 pm50 an50 cd50 ct50), sl50⟩) (c50 : PySem.W.codeIn K cd50 "law" = true) (k50 : PySem.W.keepIn K (.ref f50) = true)
    {C fI Nk : Addr} {odI anI : Option Addr} {slI : Array (Option Value)} {ocI kVI dcI pmI cdI ctI : Value} {xnm xq xN xbs xbm xsn xsub xab xcol xdd xk0 xk1 xk2 xk3 xk5} {xcl}
    (x0 : PySem.W.nsIn K mainGlobals "InvalidValue" = some (some (.ref C))) (x1 : PySem.W.nsIn K mainGlobals "NoKey" = some (some (.ref Nk))) (x2 : PySem.W.findIn K (.ref C) "__init__" = some (some (.ref fI)))
    (x3 : K.lookup fI = some ⟨ocI, odI, .func (PySem.W.fnOf "__init__" "InvalidValue.__init__" (defArgs stI) (defBody stI) (defScope stI) .none kVI dcI pmI anI cdI ctI), slI⟩) (x4 : PySem.W.codeIn K cdI "InvalidValue.__init__" = true) (x5 : PySem.W.keepIn K (.ref fI) = true) (x6 : PySem.W.typeIn K (.ref fI) = some (.type "function"))
    (x7 : K.lookup C = some (excClassObj xnm xq C xN xbs xbm true xsn xsub xab xcol xdd xk0 xk1 xk2 xk3 xk5 "ValueError.__new__")) (x8 : PySem.HandSPX.refsVE xbm = true) (x9 : PySem.W.findIn K (.ref C) "__setattr__" = some (some (.builtin "object.__setattr__"))) (x10 : PySem.W.subIn K (.ref C) (.type "BaseException") = some true) (x11 : PySem.W.typeIn K (.ref C) = some (.type "type")) (x12 : PySem.W.keepIn K (.ref C) = true)
    (x13 : PySem.W.findIn K (.ref C) "given" = some none) (x14 : PySem.W.findIn K (.ref C) "__getattribute__" = some (some (.builtin "BaseException.__getattribute__"))) (x15 : PySem.W.findIn K (.ref C) "__getattr__" = some none) (x16 : PySem.W.hasDictIn K C = true) (x17 : PySem.W.clsIn K C = some xcl) (x18 : PySem.W.findIn K (.ref C) "__class__" = some (some (.builtin "object.__class__")))
    (x19 : PySem.W.specialIn K (.builtin "object.__class__") "__get__" = some (some (.builtin "getset_descriptor.__get__"))) (x20 : PySem.W.takesIn K (.builtin "object.__class__") = some true) (x21 : PySem.W.mroIn K C (.type "object") = some true) (x22 : PySem.W.kitOne K (.ref C) (.ref Nk) = some false) (x23 : PySem.W.subIn K (.ref C) (.ref C) = some true)
    (m_gcd : PySem.W.nsIn K mainGlobals "gcd" = some (some (.builtin "math.gcd")))
    (z_len : PySem.W.nsIn K mainGlobals "len" = some none) (z_sum : PySem.W.nsIn K mainGlobals "sum" = some none) (z_max : PySem.W.nsIn K mainGlobals "max" = some none) (z_min : PySem.W.nsIn K mainGlobals "min" = some none) (z_range : PySem.W.nsIn K mainGlobals "range" = some none) (z_enumerate : PySem.W.nsIn K mainGlobals "enumerate" = some none) (z_zip : PySem.W.nsIn K mainGlobals "zip" = some none) (z_int : PySem.W.nsIn K mainGlobals "int" = some none) (z_bool : PySem.W.nsIn K mainGlobals "bool" = some none) (z_str : PySem.W.nsIn K mainGlobals "str" = some none) (z_isinstance : PySem.W.nsIn K mainGlobals "isinstance" = some none) (z_list : PySem.W.nsIn K mainGlobals "list" = some none) (z_tuple : PySem.W.nsIn K mainGlobals "tuple" = some none) (z_sorted : PySem.W.nsIn K mainGlobals "sorted" = some none) (z_all : PySem.W.nsIn K mainGlobals "all" = some none) :
    ∃ fd : FuncData, (∀ (s : Shared) (v : Value), BindsTo s fd ⟨[v], []⟩ [("script", v)]) ∧ ∀ base : Heap, K.In base → base.Ns mainGlobals mg → FnOk l.prog w K mg base CX0 8 fa fd ["script"] (lawC K 63).sp := by
  have e := hfa.symm.trans (PySem.W.mg_of X G a50)
  cases e
  have F6 := fun_mk (st := stm 6) l6 c6 k6
  have b6 := F6.binds (ps := ["wants", "lead", "level"]) fun _ _ _ _ _ _ us hl => match us, hl with | [_, _, _], _ => rfl
  have F7 := fun_mk (st := stm 7) l7 c7 k7
  have b7 := F7.binds (ps := ["wants", "lead", "level"]) fun _ _ _ _ _ _ us hl => match us, hl with | [_, _, _], _ => rfl
  have F8 := fun_mk (st := stm 8) l8 c8 k8
  have b8 := F8.binds (ps := ["wants", "lead"]) fun _ _ _ _ _ _ us hl => match us, hl with | [_, _], _ => rfl
  have F9 := fun_mk (st := stm 9) l9 c9 k9
  have b9 := F9.binds (ps := ["wants", "lead", "days"]) fun _ _ _ _ _ _ us hl => match us, hl with | [_, _, _], _ => rfl
  have F11 := fun_mk (st := stm 11) l11 c11 k11
  have b11 := F11.binds (ps := ["value"]) fun _ _ _ _ _ _ us hl => match us, hl with | [_], _ => rfl
  have F12 := fun_mk (st := stm 12) l12 c12 k12
  have b12 := F12.binds (ps := ["wants", "value"]) fun _ _ _ _ _ _ us hl => match us, hl with | [_, _], _ => rfl
  have F13 := fun_mk (st := stm 13) l13 c13 k13
  have b13 := F13.binds (ps := ["wants", "scheme"]) fun _ _ _ _ _ _ us hl => match us, hl with | [_, _], _ => rfl
  have F14 := fun_mk (st := stm 14) l14 c14 k14
  have b14 := F14.binds (ps := ["wants", "scheme"]) fun _ _ _ _ _ _ us hl => match us, hl with | [_, _], _ => rfl
  have F15 := fun_mk (st := stm 15) l15 c15 k15
  have b15 := F15.binds (ps := ["pieces", "price", "fixed"]) fun _ _ _ _ _ _ us hl => match us, hl with | [_, _, _], _ => rfl
  have F16 := fun_mk (st := stm 16) l16 c16 k16
  have b16 := F16.binds (ps := ["wants", "prices", "fixed", "night", "scheme"]) fun _ _ _ _ _ _ us hl => match us, hl with | [_, _, _, _, _], _ => rfl
  have F17 := fun_mk (st := stm 17) l17 c17 k17
  have b17 := F17.binds (ps := ["wants", "first", "end"]) fun _ _ _ _ _ _ us hl => match us, hl with | [_, _, _], _ => rfl
  have F18 := fun_mk (st := stm 18) l18 c18 k18
  have b18 := F18.binds (ps := ["wants", "prices", "fixed", "night", "first", "end"]) fun _ _ _ _ _ _ us hl => match us, hl with | [_, _, _, _, _, _], _ => rfl
  have F19 := fun_mk (st := stm 19) l19 c19 k19
  have b19 := F19.binds (ps := ["wants", "prices", "fixed", "night"]) fun _ _ _ _ _ _ us hl => match us, hl with | [_, _, _, _], _ => rfl
  have F20 := fun_mk (st := stm 20) l20 c20 k20
  have b20 := F20.binds (ps := ["wants", "prices", "fixed", "night"]) fun _ _ _ _ _ _ us hl => match us, hl with | [_, _, _, _], _ => rfl
  have F21 := fun_mk (st := stm 21) l21 c21 k21
  have b21 := F21.binds (ps := ["scheme"]) fun _ _ _ _ _ _ us hl => match us, hl with | [_], _ => rfl
  have F23 := fun_mk (st := stm 23) l23 c23 k23
  have b23 := F23.binds (ps := ["over", "under"]) fun _ _ _ _ _ _ us hl => match us, hl with | [_, _], _ => rfl
  have F24 := fun_mk (st := stm 24) l24 c24 k24
  have b24 := F24.binds (ps := ["one", "other"]) fun _ _ _ _ _ _ us hl => match us, hl with | [_, _], _ => rfl
  have F25 := fun_mk (st := stm 25) l25 c25 k25
  have b25 := F25.binds (ps := ["one", "other"]) fun _ _ _ _ _ _ us hl => match us, hl with | [_, _], _ => rfl
  have F26 := fun_mk (st := stm 26) l26 c26 k26
  have b26 := F26.binds (ps := ["one", "other"]) fun _ _ _ _ _ _ us hl => match us, hl with | [_, _], _ => rfl
  have F27 := fun_mk (st := stm 27) l27 c27 k27
  have b27 := F27.binds (ps := ["one"]) fun _ _ _ _ _ _ us hl => match us, hl with | [_], _ => rfl
  have F28 := fun_mk (st := stm 28) l28 c28 k28
  have b28 := F28.binds (ps := ["fractions"]) fun _ _ _ _ _ _ us hl => match us, hl with | [_], _ => rfl
  have F29 := fun_mk (st := stm 29) l29 c29 k29
  have b29 := F29.binds (ps := ["past", "many"]) fun _ _ _ _ _ _ us hl => match us, hl with | [_, _], _ => rfl
  have F30 := fun_mk (st := stm 30) l30 c30 k30
  have b30 := F30.binds (ps := ["past", "many"]) fun _ _ _ _ _ _ us hl => match us, hl with | [_, _], _ => rfl
  have F31 := fun_mk (st := stm 31) l31 c31 k31
  have b31 := F31.binds (ps := ["past", "most"]) fun _ _ _ _ _ _ us hl => match us, hl with | [_, _], _ => rfl
  have F32 := fun_mk (st := stm 32) l32 c32 k32
  have b32 := F32.binds (ps := ["past", "most"]) fun _ _ _ _ _ _ us hl => match us, hl with | [_, _], _ => rfl
  have F34 := fun_mk (st := stm 34) l34 c34 k34
  have b34 := F34.binds (ps := ["script", "many"]) fun _ _ _ _ _ _ us hl => match us, hl with | [_, _], _ => rfl
  have F35 := fun_mk (st := stm 35) l35 c35 k35
  have b35 := F35.binds (ps := ["pool", "many"]) fun _ _ _ _ _ _ us hl => match us, hl with | [_, _], _ => rfl
  have F36 := fun_mk (st := stm 36) l36 c36 k36
  have b36 := F36.binds (ps := ["told", "due"]) fun _ _ _ _ _ _ us hl => match us, hl with | [_, _], _ => rfl
  have F37 := fun_mk (st := stm 37) l37 c37 k37
  have b37 := F37.binds (ps := ["over", "under"]) fun _ _ _ _ _ _ us hl => match us, hl with | [_, _], _ => rfl
  have F38 := fun_mk (st := stm 38) l38 c38 k38
  have b38 := F38.binds (ps := ["pool", "many"]) fun _ _ _ _ _ _ us hl => match us, hl with | [_, _], _ => rfl
  have F39 := fun_mk (st := stm 39) l39 c39 k39
  have b39 := F39.binds (ps := ["past", "many"]) fun _ _ _ _ _ _ us hl => match us, hl with | [_, _], _ => rfl
  have F40 := fun_mk (st := stm 40) l40 c40 k40
  have b40 := F40.binds (ps := ["past", "most"]) fun _ _ _ _ _ _ us hl => match us, hl with | [_, _], _ => rfl
  have F41 := fun_mk (st := stm 41) l41 c41 k41
  have b41 := F41.binds (ps := ["past", "most", "many"]) fun _ _ _ _ _ _ us hl => match us, hl with | [_, _, _], _ => rfl
  have F42 := fun_mk (st := stm 42) l42 c42 k42
  have b42 := F42.binds (ps := ["wants", "lead"]) fun _ _ _ _ _ _ us hl => match us, hl with | [_, _], _ => rfl
  have F43 := fun_mk (st := stm 43) l43 c43 k43
  have b43 := F43.binds (ps := ["pool", "spans", "told"]) fun _ _ _ _ _ _ us hl => match us, hl with | [_, _, _], _ => rfl
  have F44 := fun_mk (st := stm 44) l44 c44 k44
  have b44 := F44.binds (ps := ["wants", "lead", "height", "spans"]) fun _ _ _ _ _ _ us hl => match us, hl with | [_, _, _, _], _ => rfl
  have F45 := fun_mk (st := stm 45) l45 c45 k45
  have b45 := F45.binds (ps := ["wants", "lead", "height", "spans", "days"]) fun _ _ _ _ _ _ us hl => match us, hl with | [_, _, _, _, _], _ => rfl
  have F46 := fun_mk (st := stm 46) l46 c46 k46
  have b46 := F46.binds (ps := ["wants", "lead", "height"]) fun _ _ _ _ _ _ us hl => match us, hl with | [_, _, _], _ => rfl
  have F47 := fun_mk (st := stm 47) l47 c47 k47
  have b47 := F47.binds (ps := ["wants", "prices", "fixed", "night"]) fun _ _ _ _ _ _ us hl => match us, hl with | [_, _, _, _], _ => rfl
  have F48 := fun_mk (st := stm 48) l48 c48 k48
  have b48 := F48.binds (ps := ["wants", "prices", "fixed", "night"]) fun _ _ _ _ _ _ us hl => match us, hl with | [_, _, _, _], _ => rfl
  have F49 := fun_mk (st := stm 49) l49 c49 k49
  have b49 := F49.binds (ps := ["wants", "prices", "fixed", "night", "scheme", "good"]) fun _ _ _ _ _ _ us hl => match us, hl with | [_, _, _, _, _, _], _ => rfl
  have F50 := fun_mk (st := stm 50) l50 c50 k50
  refine ⟨PySem.W.fnOf "law" "law" (defArgs (stm 50)) (defBody (stm 50)) (defScope (stm 50)) .none kV50 dc50 pm50 an50 cd50 ct50, fun s v => .of_eq rfl, fun base _ _ => ?_⟩
  have Bl : Blt ⟨l.prog, w, K, mg, base⟩ := ⟨PySem.W.mg_none_of X G z_len, PySem.W.mg_none_of X G z_sum, PySem.W.mg_none_of X G z_max, PySem.W.mg_none_of X G z_min, PySem.W.mg_none_of X G z_range, PySem.W.mg_none_of X G z_enumerate, PySem.W.mg_none_of X G z_zip, PySem.W.mg_none_of X G z_int, PySem.W.mg_none_of X G z_bool, PySem.W.mg_none_of X G z_str, PySem.W.mg_none_of X G z_isinstance, PySem.W.mg_none_of X G z_list, PySem.W.mg_none_of X G z_tuple, PySem.W.mg_none_of X G z_sorted⟩
  have P6 : Pr ⟨l.prog, w, K, mg, base⟩ "level_rows" (stm 6) ["wants", "lead", "level"] := ⟨f6, _, F6, PySem.W.mg_of X G a6, b6⟩
  have P7 : Pr ⟨l.prog, w, K, mg, base⟩ "owed_days" (stm 7) ["wants", "lead", "level"] := ⟨f7, _, F7, PySem.W.mg_of X G a7, b7⟩
  have P8 : Pr ⟨l.prog, w, K, mg, base⟩ "window_sums" (stm 8) ["wants", "lead"] := ⟨f8, _, F8, PySem.W.mg_of X G a8, b8⟩
  have P9 : Pr ⟨l.prog, w, K, mg, base⟩ "least_level" (stm 9) ["wants", "lead", "days"] := ⟨f9, _, F9, PySem.W.mg_of X G a9, b9⟩
  have P11 : Pr ⟨l.prog, w, K, mg, base⟩ "is_amount_of_pieces" (stm 11) ["value"] := ⟨f11, _, F11, PySem.W.mg_of X G a11, b11⟩
  have P12 : Pr ⟨l.prog, w, K, mg, base⟩ "is_scheme" (stm 12) ["wants", "value"] := ⟨f12, _, F12, PySem.W.mg_of X G a12, b12⟩
  have P13 : Pr ⟨l.prog, w, K, mg, base⟩ "nights_of" (stm 13) ["wants", "scheme"] := ⟨f13, _, F13, PySem.W.mg_of X G a13, b13⟩
  have P14 : Pr ⟨l.prog, w, K, mg, base⟩ "covers" (stm 14) ["wants", "scheme"] := ⟨f14, _, F14, PySem.W.mg_of X G a14, b14⟩
  have P15 : Pr ⟨l.prog, w, K, mg, base⟩ "order_cost" (stm 15) ["pieces", "price", "fixed"] := ⟨f15, _, F15, PySem.W.mg_of X G a15, b15⟩
  have P16 : Pr ⟨l.prog, w, K, mg, base⟩ "scheme_cost" (stm 16) ["wants", "prices", "fixed", "night", "scheme"] := ⟨f16, _, F16, PySem.W.mg_of X G a16, b16⟩
  have P17 : Pr ⟨l.prog, w, K, mg, base⟩ "pieces_in" (stm 17) ["wants", "first", "end"] := ⟨f17, _, F17, PySem.W.mg_of X G a17, b17⟩
  have P18 : Pr ⟨l.prog, w, K, mg, base⟩ "span_cost" (stm 18) ["wants", "prices", "fixed", "night", "first", "end"] := ⟨f18, _, F18, PySem.W.mg_of X G a18, b18⟩
  have P19 : Pr ⟨l.prog, w, K, mg, base⟩ "least_costs" (stm 19) ["wants", "prices", "fixed", "night"] := ⟨f19, _, F19, PySem.W.mg_of X G a19, b19⟩
  have P20 : Pr ⟨l.prog, w, K, mg, base⟩ "least_cost" (stm 20) ["wants", "prices", "fixed", "night"] := ⟨f20, _, F20, PySem.W.mg_of X G a20, b20⟩
  have P21 : Pr ⟨l.prog, w, K, mg, base⟩ "order_days" (stm 21) ["scheme"] := ⟨f21, _, F21, PySem.W.mg_of X G a21, b21⟩
  have P23 : Pr ⟨l.prog, w, K, mg, base⟩ "reduced" (stm 23) ["over", "under"] := ⟨f23, _, F23, PySem.W.mg_of X G a23, b23⟩
  have P24 : Pr ⟨l.prog, w, K, mg, base⟩ "added" (stm 24) ["one", "other"] := ⟨f24, _, F24, PySem.W.mg_of X G a24, b24⟩
  have P25 : Pr ⟨l.prog, w, K, mg, base⟩ "multiplied" (stm 25) ["one", "other"] := ⟨f25, _, F25, PySem.W.mg_of X G a25, b25⟩
  have P26 : Pr ⟨l.prog, w, K, mg, base⟩ "less" (stm 26) ["one", "other"] := ⟨f26, _, F26, PySem.W.mg_of X G a26, b26⟩
  have P27 : Pr ⟨l.prog, w, K, mg, base⟩ "squared" (stm 27) ["one"] := ⟨f27, _, F27, PySem.W.mg_of X G a27, b27⟩
  have P28 : Pr ⟨l.prog, w, K, mg, base⟩ "summed" (stm 28) ["fractions"] := ⟨f28, _, F28, PySem.W.mg_of X G a28, b28⟩
  have P29 : Pr ⟨l.prog, w, K, mg, base⟩ "mean_last" (stm 29) ["past", "many"] := ⟨f29, _, F29, PySem.W.mg_of X G a29, b29⟩
  have P30 : Pr ⟨l.prog, w, K, mg, base⟩ "miss_sum" (stm 30) ["past", "many"] := ⟨f30, _, F30, PySem.W.mg_of X G a30, b30⟩
  have P31 : Pr ⟨l.prog, w, K, mg, base⟩ "best_many" (stm 31) ["past", "most"] := ⟨f31, _, F31, PySem.W.mg_of X G a31, b31⟩
  have P32 : Pr ⟨l.prog, w, K, mg, base⟩ "next_want" (stm 32) ["past", "most"] := ⟨f32, _, F32, PySem.W.mg_of X G a32, b32⟩
  have P34 : Pr ⟨l.prog, w, K, mg, base⟩ "_law_pool" (stm 34) ["script", "many"] := ⟨f34, _, F34, PySem.W.mg_of X G a34, b34⟩
  have P35 : Pr ⟨l.prog, w, K, mg, base⟩ "_law_draw" (stm 35) ["pool", "many"] := ⟨f35, _, F35, PySem.W.mg_of X G a35, b35⟩
  have P36 : Pr ⟨l.prog, w, K, mg, base⟩ "_law_same" (stm 36) ["told", "due"] := ⟨f36, _, F36, PySem.W.mg_of X G a36, b36⟩
  have P37 : Pr ⟨l.prog, w, K, mg, base⟩ "_law_fraction" (stm 37) ["over", "under"] := ⟨f37, _, F37, PySem.W.mg_of X G a37, b37⟩
  have P38 : Pr ⟨l.prog, w, K, mg, base⟩ "_law_numbers" (stm 38) ["pool", "many"] := ⟨f38, _, F38, PySem.W.mg_of X G a38, b38⟩
  have P39 : Pr ⟨l.prog, w, K, mg, base⟩ "_law_miss" (stm 39) ["past", "many"] := ⟨f39, _, F39, PySem.W.mg_of X G a39, b39⟩
  have P40 : Pr ⟨l.prog, w, K, mg, base⟩ "_law_best" (stm 40) ["past", "most"] := ⟨f40, _, F40, PySem.W.mg_of X G a40, b40⟩
  have P41 : Pr ⟨l.prog, w, K, mg, base⟩ "_law_outlook_holds" (stm 41) ["past", "most", "many"] := ⟨f41, _, F41, PySem.W.mg_of X G a41, b41⟩
  have P42 : Pr ⟨l.prog, w, K, mg, base⟩ "_law_windows" (stm 42) ["wants", "lead"] := ⟨f42, _, F42, PySem.W.mg_of X G a42, b42⟩
  have P43 : Pr ⟨l.prog, w, K, mg, base⟩ "_law_level" (stm 43) ["pool", "spans", "told"] := ⟨f43, _, F43, PySem.W.mg_of X G a43, b43⟩
  have P44 : Pr ⟨l.prog, w, K, mg, base⟩ "_law_rows_hold" (stm 44) ["wants", "lead", "height", "spans"] := ⟨f44, _, F44, PySem.W.mg_of X G a44, b44⟩
  have P45 : Pr ⟨l.prog, w, K, mg, base⟩ "_law_levels_hold" (stm 45) ["wants", "lead", "height", "spans", "days"] := ⟨f45, _, F45, PySem.W.mg_of X G a45, b45⟩
  have P46 : Pr ⟨l.prog, w, K, mg, base⟩ "_law_scheme" (stm 46) ["wants", "lead", "height"] := ⟨f46, _, F46, PySem.W.mg_of X G a46, b46⟩
  have P47 : Pr ⟨l.prog, w, K, mg, base⟩ "_law_costs" (stm 47) ["wants", "prices", "fixed", "night"] := ⟨f47, _, F47, PySem.W.mg_of X G a47, b47⟩
  have P48 : Pr ⟨l.prog, w, K, mg, base⟩ "_law_costs_hold" (stm 48) ["wants", "prices", "fixed", "night"] := ⟨f48, _, F48, PySem.W.mg_of X G a48, b48⟩
  have P49 : Pr ⟨l.prog, w, K, mg, base⟩ "_law_scheme_holds" (stm 49) ["wants", "prices", "fixed", "night", "scheme", "good"] := ⟨f49, _, F49, PySem.W.mg_of X G a49, b49⟩
  have FI := fun_mk (st := stI) x3 x4 x5
  have bI := FI.binds (ps := ["self", "given"]) fun _ _ _ _ _ _ us hl => match us, hl with | [_, _], _ => rfl
  have XT : XC ⟨l.prog, w, K, mg, base⟩ "InvalidValue" C fI _ "given" "given" 1 := ⟨⟨⟨_, _, _, _, _, _, _, _, _, _, _, _, _, _, _, x7, x8⟩, x9, x10, x11, x12⟩, x2, x6, fn_init FI ⟨rfl, rfl, rfl, by decide +kernel, rfl, by decide +kernel, by decide +kernel⟩ rfl (.inl rfl) (.inl rfl) rfl rfl, bI, x13, PySem.W.mg_of X G x0⟩
  have XDf : XD K C Nk "given" := ⟨⟨x14, x15, x10, x16⟩, x13, by rw [x17]; rfl, x18, x19, x20, x21, x22⟩
  have hNo := PySem.W.mg_of X G x1
  have hIV := PySem.W.mg_of X G x0
  have hex := PySem.W.exm_ref x10 x16 x11 x23
  have hgcd := PySem.W.mg_of X G m_gcd
  have h_all := PySem.W.mg_none_of X G z_all
  have Bk : Blk ⟨l.prog, w, K, mg, base⟩ := ⟨h_all⟩
  have G1 := ok1 Bl P6
  have G2 := ok2 Bl P7 G1
  have G3 := ok3 Bl P8
  have G4 := ok4 Bl P9 G3
  have E1 := oke1 Bl P11
  have E2 := oke2 Bl Bk P12 E1
  have E3 := oke3 Bl P13
  have E4 := oke4 Bl P14 E2 E3
  have E5 := oke5 Bl P15
  have E6 := oke6 Bl P16 E3 E4 E5
  have E7 := oke7 Bl P17
  have E8 := oke8 Bl P18 E5 E7
  have E9 := oke9 Bl P19 E8
  have E10 := oke10 P20 E9
  have E11 := oke11 Bl P21
  have D1 := okd1 Bl hgcd P23
  have D2 := okd2 P24 D1
  have D3 := okd3 P25 D1
  have D4 := okd4 P26 D2
  have D5 := okd5 P27 D3
  have D6 := okd6 P28 D2
  have D7 := okd7 Bl P29 D1
  have D8 := okd8 Bl P30 D1 D4 D5 D6
  have D9 := okd9 Bl P31 D3 D8
  have D10 := okd10 Bl P32 D7 D9
  have Gpool := okpool Bl P34
  have Gpd := okpd Bl P35
  have S0 := oks0 Bl P36
  have S1 : Gd _ 2 "_law_same" ["told", "due"] s1 := oksT Bl P36 S0 (fun _ => rfl) (fun _ => rfl) (fun _ => rfl) (fun _ => rfl)
  have S2 : Gd _ 3 "_law_same" ["told", "due"] s2 := oksT Bl P36 S1 (fun _ => rfl) (fun _ => rfl) (fun _ => rfl) (fun _ => rfl)
  have SIh := oksIh Bl P36
  have SLh := oksLh Bl P36 SIh
  have L1' := okl1 Bl P37
  have LN := okl2 Bl P38 Gpd
  have L3' := okl3 Bl P39
  have L4' := okl4 Bl P40 L3'
  have L5' := okl5 Bl P41 L1' L3' L4' D7 D8 D9 D10 (oksI S0) (oksP S1)
  have L6' := okl6 Bl P42
  have L7' := okl7 Bl P43 Gpd
  have L8' := okl8 Bl P44 G1 G2 (oksI S0) (oksQ S2)
  have L9' := okl9 Bl P45 G3 G4 L8' (oksI S0) (oksL S1)
  have M1' := okm1 Bl P46
  have M2' := okm2 Bl P47
  have M3' := okm3 Bl P48 M2' E9 E10 (oksI S0) (oksL S1)
  have E6x := oke6x XT P16 E4
  have M4' := okm4 Bl XT XDf hNo hIV hex P49 E4 E6 E6x E11 (oksB S0) (oksI S0) (oksL S1) SLh
  exact oklaw Bl F50 Gpool Gpd LN L4' L5' L6' L7' L8' L9' M1' M3' M4'
end K27
open PySem PySem.W PyProof.Rows
set_option maxHeartbeats 0 in
theorem PySem.Challenge.cw_oncecounted_k27_whole_outlook_sets_level_holds : PySem.Challenge.rw_oncecounted_k27_whole_outlook_sets_level.Holds := by
  w_on; o_law; k_head; (case hw => w_witness2)
  k_fill
  refine L2.walk_of (l := PySem.Challenge.rw_oncecounted_k27_whole_outlook_sets_level) (n := 63) (k := 8) (x := "script") (CX := fun _ => L2.CX0) (sp := fun w => (ZZ.lawC _ 63).sp) rfl (by decide) rfl ⟨rfl, by decide, by decide⟩ (fun w h Y => PySem.W.kIn_of Y) ?F (fun _ _ a ns hl _ hS => ZZ.law_sp hl hS) (fun _ _ _ _ _ h => h)
  case F =>
    intro w mg fa h KX G hmg
    refine' K27.all_mk KX G hmg ?a6 ?l6 ?c6 ?k6 ?a7 ?l7 ?c7 ?k7 ?a8 ?l8 ?c8 ?k8 ?a9 ?l9 ?c9 ?k9 ?a11 ?l11 ?c11 ?k11 ?a12 ?l12 ?c12 ?k12 ?a13 ?l13 ?c13 ?k13 ?a14 ?l14 ?c14 ?k14 ?a15 ?l15 ?c15 ?k15 ?a16 ?l16 ?c16 ?k16 ?a17 ?l17 ?c17 ?k17 ?a18 ?l18 ?c18 ?k18 ?a19 ?l19 ?c19 ?k19 ?a20 ?l20 ?c20 ?k20 ?a21 ?l21 ?c21 ?k21 ?a23 ?l23 ?c23 ?k23 ?a24 ?l24 ?c24 ?k24 ?a25 ?l25 ?c25 ?k25 ?a26 ?l26 ?c26 ?k26 ?a27 ?l27 ?c27 ?k27 ?a28 ?l28 ?c28 ?k28 ?a29 ?l29 ?c29 ?k29 ?a30 ?l30 ?c30 ?k30 ?a31 ?l31 ?c31 ?k31 ?a32 ?l32 ?c32 ?k32 ?a34 ?l34 ?c34 ?k34 ?a35 ?l35 ?c35 ?k35 ?a36 ?l36 ?c36 ?k36 ?a37 ?l37 ?c37 ?k37 ?a38 ?l38 ?c38 ?k38 ?a39 ?l39 ?c39 ?k39 ?a40 ?l40 ?c40 ?k40 ?a41 ?l41 ?c41 ?k41 ?a42 ?l42 ?c42 ?k42 ?a43 ?l43 ?c43 ?k43 ?a44 ?l44 ?c44 ?k44 ?a45 ?l45 ?c45 ?k45 ?a46 ?l46 ?c46 ?k46 ?a47 ?l47 ?c47 ?k47 ?a48 ?l48 ?c48 ?k48 ?a49 ?l49 ?c49 ?k49 ?a50 ?l50 ?c50 ?k50 ?x0 ?x1 ?x2 ?x3 ?x4 ?x5 ?x6 ?x7 ?x8 ?x9 ?x10 ?x11 ?x12 ?x13 ?x14 ?x15 ?x16 ?x17 ?x18 ?x19 ?x20 ?x21 ?x22 ?x23 ?m_gcd ?z_len ?z_sum ?z_max ?z_min ?z_range ?z_enumerate ?z_zip ?z_int ?z_bool ?z_str ?z_isinstance ?z_list ?z_tuple ?z_sorted ?z_all
    (case a6 => k_is); (case l6 => k_is); (case c6 => k_is); (case k6 => k_is); (case a7 => k_is); (case l7 => k_is); (case c7 => k_is); (case k7 => k_is); (case a8 => k_is); (case l8 => k_is); (case c8 => k_is); (case k8 => k_is); (case a9 => k_is); (case l9 => k_is); (case c9 => k_is); (case k9 => k_is); (case a11 => k_is); (case l11 => k_is); (case c11 => k_is); (case k11 => k_is); (case a12 => k_is); (case l12 => k_is); (case c12 => k_is); (case k12 => k_is); (case a13 => k_is); (case l13 => k_is); (case c13 => k_is); (case k13 => k_is); (case a14 => k_is); (case l14 => k_is); (case c14 => k_is); (case k14 => k_is); (case a15 => k_is); (case l15 => k_is); (case c15 => k_is); (case k15 => k_is); (case a16 => k_is); (case l16 => k_is); (case c16 => k_is); (case k16 => k_is); (case a17 => k_is); (case l17 => k_is); (case c17 => k_is); (case k17 => k_is); (case a18 => k_is); (case l18 => k_is); (case c18 => k_is); (case k18 => k_is); (case a19 => k_is); (case l19 => k_is); (case c19 => k_is); (case k19 => k_is); (case a20 => k_is); (case l20 => k_is); (case c20 => k_is); (case k20 => k_is); (case a21 => k_is); (case l21 => k_is); (case c21 => k_is); (case k21 => k_is); (case a23 => k_is); (case l23 => k_is); (case c23 => k_is); (case k23 => k_is); (case a24 => k_is); (case l24 => k_is); (case c24 => k_is); (case k24 => k_is); (case a25 => k_is); (case l25 => k_is); (case c25 => k_is); (case k25 => k_is); (case a26 => k_is); (case l26 => k_is); (case c26 => k_is); (case k26 => k_is); (case a27 => k_is); (case l27 => k_is); (case c27 => k_is); (case k27 => k_is); (case a28 => k_is); (case l28 => k_is); (case c28 => k_is); (case k28 => k_is); (case a29 => k_is); (case l29 => k_is); (case c29 => k_is); (case k29 => k_is); (case a30 => k_is); (case l30 => k_is); (case c30 => k_is); (case k30 => k_is); (case a31 => k_is); (case l31 => k_is); (case c31 => k_is); (case k31 => k_is); (case a32 => k_is); (case l32 => k_is); (case c32 => k_is); (case k32 => k_is); (case a34 => k_is); (case l34 => k_is); (case c34 => k_is); (case k34 => k_is); (case a35 => k_is); (case l35 => k_is); (case c35 => k_is); (case k35 => k_is); (case a36 => k_is); (case l36 => k_is); (case c36 => k_is); (case k36 => k_is); (case a37 => k_is); (case l37 => k_is); (case c37 => k_is); (case k37 => k_is); (case a38 => k_is); (case l38 => k_is); (case c38 => k_is); (case k38 => k_is); (case a39 => k_is); (case l39 => k_is); (case c39 => k_is); (case k39 => k_is); (case a40 => k_is); (case l40 => k_is); (case c40 => k_is); (case k40 => k_is); (case a41 => k_is); (case l41 => k_is); (case c41 => k_is); (case k41 => k_is); (case a42 => k_is); (case l42 => k_is); (case c42 => k_is); (case k42 => k_is); (case a43 => k_is); (case l43 => k_is); (case c43 => k_is); (case k43 => k_is); (case a44 => k_is); (case l44 => k_is); (case c44 => k_is); (case k44 => k_is); (case a45 => k_is); (case l45 => k_is); (case c45 => k_is); (case k45 => k_is); (case a46 => k_is); (case l46 => k_is); (case c46 => k_is); (case k46 => k_is); (case a47 => k_is); (case l47 => k_is); (case c47 => k_is); (case k47 => k_is); (case a48 => k_is); (case l48 => k_is); (case c48 => k_is); (case k48 => k_is); (case a49 => k_is); (case l49 => k_is); (case c49 => k_is); (case k49 => k_is); (case a50 => k_is); (case l50 => k_is); (case c50 => k_is); (case k50 => k_is); (case x0 => k_is); (case x1 => k_is); (case x2 => k_is); (case x3 => k_is); (case x4 => k_is); (case x5 => k_is); (case x6 => k_is); (case x7 => k_is); (case x9 => k_is); (case x10 => k_is); (case x11 => k_is); (case x12 => k_is); (case x13 => k_is); (case x14 => k_is); (case x15 => k_is); (case x16 => k_is); (case x17 => k_is); (case x18 => k_is); (case x19 => k_is); (case x20 => k_is); (case x21 => k_is); (case x22 => kit_is); (case x23 => k_is); (case m_gcd => k_is); (case z_len => k_is); (case z_sum => k_is); (case z_max => k_is); (case z_min => k_is); (case z_range => k_is); (case z_enumerate => k_is); (case z_zip => k_is); (case z_int => k_is); (case z_bool => k_is); (case z_str => k_is); (case z_isinstance => k_is); (case z_list => k_is); (case z_tuple => k_is); (case z_sorted => k_is); (case z_all => k_is); (case x8 => rfl)

