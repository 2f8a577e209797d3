import PyProof.Rows.All
import Wide.All
import OpenK.AllK
import Wide.FinOn
import HandS.ForMost
import HandS.Evl
import HandS.Walk
import HandS.Style
import HandS.IsInst
import HandS.HotCalls
import HandS.TupAny
import KE.GoesEnum
import HandS.Gcd
import HandS.SortInts
import KE.KTupSum
import PyProof.TupleOfSeq
import HandS.ExcInit
import HandS.ExcField
import HandS.WordsExc
import KE.KExcIs
import HandS.RaiseFrom
import HandS.RaiseMore
import HandS.DictComp
import HandS.WordsDict
import HandS.Conv
import HandS.SortRule
import PyProof.WalkInts
import HandS.StrMore
import HandS.TupLe
import HandS.SortKw
import PySem.Challenge.RW_oncecounted_k24_whole_counts_shared
import HandS.ExcIs
set_option Elab.async false
set_option linter.all false
set_option maxRecDepth 100000
set_option maxHeartbeats 2000000
/-! Z1: shapes, environments, owned cells, judgements. -/
namespace ZZ
open PySem PySem.Spec PyProof.Rows L2
open Evl (Ex)

/-! ### shapes: what a value is, over a heap that only grows -/
structure Sh where
  p : Hp → V → Prop
  mono : ∀ {B B' : Hp} {v : V}, Ex B B' → p B v → p B' v
def Sc (v : V) : Sh := ⟨fun _ u => u = v, fun _ h => h⟩
abbrev I (i : Int) : Sh := Sc (.int i)
abbrev Bo (b : Bool) : Sh := Sc (.bl b)
abbrev No : Sh := Sc .non
abbrev Tx (s : Str) : Sh := Sc (.str s)
inductive All2 {α β : Type} (R : α → β → Prop) : List α → List β → Prop
  | nil : All2 R [] []
  | cons {a b l m} : R a b → All2 R l m → All2 R (a :: l) (b :: m)
theorem All2.mp {α β : Type} {R S : α → β → Prop} (f : ∀ a b, R a b → S a b) : ∀ {l : List α} {m : List β}, All2 R l m → All2 S l m
  | _, _, .nil => .nil
  | _, _, .cons h t => .cons (f _ _ h) (t.mp f)
theorem All2.len {α β : Type} {R : α → β → Prop} : ∀ {l : List α} {m : List β}, All2 R l m → l.length = m.length
  | _, _, .nil => rfl
  | _, _, .cons _ t => by simp [t.len]
theorem All2.get {α β : Type} {R : α → β → Prop} : ∀ {l : List α} {m : List β} {i : Nat} {b : β}, All2 R l m → m[i]? = some b → ∃ a, l[i]? = some a ∧ R a b
  | _, _, _, _, .nil, e => by simp at e
  | _, _, 0, _, .cons h _, e => by simp at e; subst e; exact ⟨_, rfl, h⟩
  | _, _, i + 1, _, .cons _ t, e => by
    obtain ⟨a, h1, h2⟩ := All2.get (i := i) t (by simpa using e)
    exact ⟨a, by simpa using h1, h2⟩
theorem All2.get' {α β : Type} {R : α → β → Prop} : ∀ {l : List α} {m : List β} {i : Nat} {a : α}, All2 R l m → l[i]? = some a → ∃ b, m[i]? = some b ∧ R a b
  | _, _, _, _, .nil, e => by simp at e
  | _, _, 0, _, .cons h _, e => by simp at e; subst e; exact ⟨_, rfl, h⟩
  | _, _, i + 1, _, .cons _ t, e => by
    obtain ⟨a, h1, h2⟩ := All2.get' (i := i) t (by simpa using e)
    exact ⟨a, by simpa using h1, h2⟩
theorem All2.append {α β : Type} {R : α → β → Prop} : ∀ {l l' : List α} {m m' : List β}, All2 R l m → All2 R l' m' → All2 R (l ++ l') (m ++ m')
  | _, _, _, _, .nil, h => h
  | _, _, _, _, .cons h t, h' => .cons h (t.append h')
theorem All2.take {α β : Type} {R : α → β → Prop} : ∀ {l : List α} {m : List β} (n : Nat), All2 R l m → All2 R (l.take n) (m.take n)
  | _, _, 0, _ => by simp; exact .nil
  | _, _, _ + 1, .nil => .nil
  | _, _, n + 1, .cons h t => .cons h (t.take n)
theorem All2.drop {α β : Type} {R : α → β → Prop} : ∀ {l : List α} {m : List β} (n : Nat), All2 R l m → All2 R (l.drop n) (m.drop n)
  | _, _, 0, h => h
  | _, _, _ + 1, .nil => .nil
  | _, _, n + 1, .cons _ t => t.drop n
theorem All2.set {α β : Type} {R : α → β → Prop} {a : α} {b : β} (r : R a b) : ∀ {l : List α} {m : List β} (i : Nat), All2 R l m → All2 R (l.set i a) (m.set i b)
  | _, _, _, .nil => .nil
  | _, _, 0, .cons _ t => .cons r t
  | _, _, i + 1, .cons h t => .cons h (All2.set r i t)
theorem All2.map_r {α β γ : Type} {R : α → β → Prop} {f : γ → β} : ∀ {l : List α} {m : List γ}, All2 (fun a c => R a (f c)) l m → All2 R l (m.map f)
  | _, _, .nil => .nil
  | _, _, .cons h t => .cons h t.map_r
theorem All2.of_map {α β γ : Type} {R : α → β → Prop} {f : γ → β} : ∀ {l : List α} {m : List γ}, All2 R l (m.map f) → All2 (fun a c => R a (f c)) l m
  | [], [], _ => .nil
  | _ :: _, _ :: _, .cons h t => .cons h (All2.of_map t)

/-- a list, a tuple, all of whose items are of one kind -/
def Sq (b : Bool) {α : Type} (R : α → Sh) (xs : List α) : Sh :=
  ⟨fun B u => ∃ a vs, u = .ref a ∧ B a = some (if b then .lst vs else .tup vs) ∧ All2 (fun v x => (R x).p B v) vs xs,
   fun e h => let ⟨a, vs, h1, h2, h3⟩ := h; ⟨a, vs, h1, e a _ h2, h3.mp fun _ _ q => (R _).mono e q⟩⟩
abbrev L {α : Type} (R : α → Sh) (xs : List α) : Sh := Sq true R xs
/-- a tuple of told shapes -/
def U (ss : List Sh) : Sh :=
  ⟨fun B u => ∃ a vs, u = .ref a ∧ B a = some (.tup vs) ∧ All2 (fun v (s : Sh) => s.p B v) vs ss,
   fun e h => let ⟨a, vs, h1, h2, h3⟩ := h; ⟨a, vs, h1, e a _ h2, h3.mp fun _ s q => s.mono e q⟩⟩
/-- some x with P x -/
def Es {α : Type} (P : α → Prop) (R : α → Sh) : Sh := ⟨fun B u => ∃ x, P x ∧ (R x).p B u, fun e h => let ⟨x, h1, h2⟩ := h; ⟨x, h1, (R x).mono e h2⟩⟩
/-- the very address -/
abbrev At (a : Addr) : Sh := Sc (.ref a)
/-- at most as wide -/
def Sle (S T : Sh) : Prop := ∀ B v, S.p B v → T.p B v
theorem Sle.refl {S : Sh} : Sle S S := fun _ _ h => h
theorem Sle.es {α : Type} {P : α → Prop} {R : α → Sh} {x : α} (h : P x) : Sle (R x) (Es P R) := fun _ _ q => ⟨x, h, q⟩

/-! ### environments -/
abbrev En := List (Str × Option Sh)
def EnvOk : En → L2.St → Hp → Prop
  | [], [], _ => True
  | (_, none) :: Γ, _ :: σ, B => EnvOk Γ σ B
  | (_, some S) :: Γ, o :: σ, B => (∃ v, o = some v ∧ S.p B v) ∧ EnvOk Γ σ B
  | _, _, _ => False
theorem EnvOk.mono : ∀ {Γ : En} {σ : L2.St} {B B' : Hp}, Ex B B' → EnvOk Γ σ B → EnvOk Γ σ B'
  | [], [], _, _, _, _ => trivial
  | (_, none) :: Γ, _ :: σ, _, _, e, h => EnvOk.mono (Γ := Γ) (σ := σ) e h
  | (_, some S) :: Γ, o :: σ, _, _, e, h => ⟨let ⟨v, h1, h2⟩ := h.1; ⟨v, h1, S.mono e h2⟩, EnvOk.mono (Γ := Γ) (σ := σ) e h.2⟩
  | [], _ :: _, _, _, _, h => h.elim
  | (_, none) :: _, [], _, _, _, h => h.elim
  | (_, some _) :: _, [], _, _, _, h => h.elim
inductive Has : En → Str → Sh → Prop
  | z {Γ x S} : Has ((x, some S) :: Γ) x S
  | s {Γ e x S} : Has Γ x S → Has (e :: Γ) x S
theorem Has.get : ∀ {Γ : En} {x : Str} {S : Sh} {σ : L2.St} {B : Hp}, Has Γ x S → EnvOk Γ σ B → ∃ (i : Nat) (v : V), (Γ.map (·.1))[i]? = some x ∧ σ[i]? = some (some v) ∧ S.p B v
  | _, _, _, [], _, .z, h => h.elim
  | _, _, _, o :: σ, _, .z, h => by
    obtain ⟨⟨v, h1, h2⟩, _⟩ := h
    exact ⟨0, v, rfl, by simp [h1], h2⟩
  | (y, none) :: Γ, x, S, o :: σ, B, .s hh, h => by
    obtain ⟨i, v, h1, h2, h3⟩ := Has.get (σ := σ) hh h
    exact ⟨i + 1, v, by simpa using h1, by simpa using h2, h3⟩
  | (y, some T) :: Γ, x, S, o :: σ, B, .s hh, h => by
    obtain ⟨i, v, h1, h2, h3⟩ := Has.get (σ := σ) hh h.2
    exact ⟨i + 1, v, by simpa using h1, by simpa using h2, h3⟩
  | (_, none) :: _, _, _, [], _, .s _, h => h.elim
  | (_, some _) :: _, _, _, [], _, .s _, h => h.elim
inductive Put : En → Str → Option Sh → En → Prop
  | z {Γ x o o'} : Put ((x, o) :: Γ) x o' ((x, o') :: Γ)
  | s {Γ e x o Γ'} : Put Γ x o Γ' → Put (e :: Γ) x o (e :: Γ')
theorem Put.names : ∀ {Γ Γ' : En} {x : Str} {o : Option Sh}, Put Γ x o Γ' → Γ'.map (·.1) = Γ.map (·.1)
  | _, _, _, _, .z => rfl
  | _, _, _, _, .s h => by simp [h.names]
theorem Put.set : ∀ {Γ Γ' : En} {x : Str} {S : Sh}, Put Γ x (some S) Γ' → ∃ i : Nat, (Γ.map (·.1))[i]? = some x ∧ ∀ (σ : L2.St) (B : Hp) (v : V), EnvOk Γ σ B → S.p B v → EnvOk Γ' (σ.set i (some v)) B
  | _, _, _, S, .z (Γ := Γ) (x := x) (o := o) => by
    refine ⟨0, rfl, fun σ B v h q => ?_⟩
    cases σ with
    | nil => cases o <;> exact h.elim
    | cons a σ =>
      refine ⟨⟨v, rfl, q⟩, ?_⟩
      cases o with
      | none => exact h
      | some T => exact h.2
  | _, _, _, S, .s (e := e) hp => by
    obtain ⟨i, h1, h2⟩ := Put.set hp
    refine ⟨i + 1, by simpa using h1, fun σ B v h q => ?_⟩
    obtain ⟨y, o⟩ := e
    cases σ with
    | nil => cases o <;> exact h.elim
    | cons a σ =>
      cases o with
      | none => exact h2 σ B v h q
      | some T => exact ⟨h.1, h2 σ B v h.2 q⟩
theorem Put.ix : ∀ {Γ Γ' : En} {x : Str} {o : Option Sh}, Put Γ x o Γ' → ∃ i : Nat, (Γ.map (·.1))[i]? = some x
  | _, _, _, _, .z => ⟨0, rfl⟩
  | _, _, _, _, .s h => let ⟨i, e⟩ := h.ix; ⟨i + 1, by simpa using e⟩
/-- forgetting -/
inductive Fg : En → En → Prop
  | nil : Fg [] []
  | drop {Γ Γ' x o} : Fg Γ Γ' → Fg ((x, o) :: Γ) ((x, none) :: Γ')
  | keep {Γ Γ' x o o'} : o = o' → Fg Γ Γ' → Fg ((x, o) :: Γ) ((x, o') :: Γ')
  | wide {Γ Γ' x S T} : Sle S T → Fg Γ Γ' → Fg ((x, some S) :: Γ) ((x, some T) :: Γ')
theorem Fg.names : ∀ {Γ Γ' : En}, Fg Γ Γ' → Γ'.map (·.1) = Γ.map (·.1)
  | _, _, .nil => rfl
  | _, _, .drop h => by simp [h.names]
  | _, _, .keep _ h => by simp [h.names]
  | _, _, .wide _ h => by simp [h.names]
theorem Fg.env : ∀ {Γ Γ' : En} {σ : L2.St} {B : Hp}, Fg Γ Γ' → EnvOk Γ σ B → EnvOk Γ' σ B
  | _, _, [], _, .nil, h => h
  | _, _, _ :: _, _, .nil, h => h.elim
  | (_, none) :: _, _, _ :: σ, _, .drop f, h => f.env (σ := σ) h
  | (_, some _) :: _, _, _ :: σ, _, .drop f, h => f.env (σ := σ) h.2
  | (_, none) :: _, _, _ :: σ, _, .keep e f, h => by subst e; exact f.env (σ := σ) h
  | (_, some _) :: _, _, _ :: σ, _, .keep e f, h => by subst e; exact ⟨h.1, f.env (σ := σ) h.2⟩
  | (_, some _) :: _, _, _ :: σ, _, .wide e f, h => ⟨let ⟨v, h1, h2⟩ := h.1; ⟨v, h1, e _ _ h2⟩, f.env (σ := σ) h.2⟩
  | (_, none) :: _, _, [], _, .drop _, h => h.elim
  | (_, some _) :: _, _, [], _, .drop _, h => h.elim
  | (_, none) :: _, _, [], _, .keep _ _, h => h.elim
  | (_, some _) :: _, _, [], _, .keep _ _, h => h.elim
  | (_, some _) :: _, _, [], _, .wide _ _, h => h.elim

/-! ### owned cells -/
structure Co where
  p : Hp → HO → Prop
  mono : ∀ {B B' : Hp} {o : HO}, Ex B B' → p B o → p B' o
/-- a list of the items xs -/
def Cl {α : Type} (R : α → Sh) (xs : List α) : Co := ⟨fun B o => ∃ vs, o = .lst vs ∧ All2 (fun v x => (R x).p B v) vs xs, fun e h => let ⟨vs, h1, h2⟩ := h; ⟨vs, h1, h2.mp fun _ _ q => (R _).mono e q⟩⟩
abbrev Ws := List (Addr × Co)
structure Own (F : Hp) (ω : Ws) (B H : Hp) : Prop where
  nd : (ω.map (·.1)).Nodup
  ow : ∀ l C, (l, C) ∈ ω → B l = none ∧ F l = none ∧ ∃ o, H l = some o ∧ C.p B o
  fr : ∀ a, a ∉ ω.map (·.1) → (B a = none ∨ F a = none) ∧ H a = (B a).or (F a)
inductive Swp : Ws → Addr → Co → Co → Ws → Prop
  | z {ω l C C'} : Swp ((l, C) :: ω) l C C' ((l, C') :: ω)
  | s {ω e l C C' ω'} : Swp ω l C C' ω' → Swp (e :: ω) l C C' (e :: ω')
inductive Tak : Ws → Addr → Co → Ws → Prop
  | z {ω l C} : Tak ((l, C) :: ω) l C ω
  | s {ω e l C ω'} : Tak ω l C ω' → Tak (e :: ω) l C (e :: ω')
section
variable {F B H B' H' : Hp} {ω ω' : Ws} {l p : Addr} {C C' : Co} {o : HO}
theorem mem_addr {l : Addr} {C : Co} {ω : Ws} (h : (l, C) ∈ ω) : l ∈ ω.map (·.1) := List.mem_map.mpr ⟨_, h, rfl⟩
theorem Own.free (O : Own F ω B H) (h : l ∈ ω.map (·.1)) : B l = none := by
  obtain ⟨⟨l', C⟩, h1, rfl⟩ := List.mem_map.mp h
  exact (O.ow _ _ h1).1
theorem Own.ex (O : Own F ω B H) : Ex B H := fun a o e => by
  by_cases h : a ∈ ω.map (·.1)
  · rw [O.free h] at e; cases e
  · rw [(O.fr a h).2, e]; rfl
theorem Own.none_of (O : Own F ω B H) (h : H p = none) : B p = none ∧ F p = none ∧ p ∉ ω.map (·.1) := by
  have hp : p ∉ ω.map (·.1) := fun hm => by
    obtain ⟨⟨l', C⟩, h1, e⟩ := List.mem_map.mp hm
    obtain ⟨_, _, o, h2, _⟩ := O.ow _ _ h1
    have e : l' = p := e
    rw [e, h] at h2; cases h2
  have q := (O.fr p hp).2
  rw [h] at q
  cases hb : B p with
  | some o => rw [hb] at q; cases q
  | none =>
    refine ⟨rfl, ?_, hp⟩
    rw [hb] at q
    exact q.symm
/-- a new thing that is never changed -/
theorem Own.new (O : Own F ω B H) (h : H p = none) : Own F ω (upd B p o) (upd H p o) ∧ Ex B (upd B p o) := by
  obtain ⟨h1, h2, h3⟩ := O.none_of h
  have e : Ex B (upd B p o) := Ex.new h1
  refine ⟨⟨O.nd, fun l C hm => ?_, fun a ha => ?_⟩, e⟩
  · obtain ⟨q1, q2, o', q3, q4⟩ := O.ow l C hm
    have hne : l ≠ p := fun z => h3 (z ▸ mem_addr hm)
    exact ⟨by rw [upd_ne hne]; exact q1, q2, o', by rw [upd_ne hne]; exact q3, C.mono e q4⟩
  · by_cases z : a = p
    · subst z
      exact ⟨.inr h2, by rw [upd_same, upd_same]; rfl⟩
    · rw [upd_ne z, upd_ne z]; exact O.fr a ha
/-- a new thing that is owned -/
theorem Own.add (O : Own F ω B H) (h : H p = none) (c : C.p B o) : Own F (ω ++ [(p, C)]) B (upd H p o) := by
  obtain ⟨h1, h2, h3⟩ := O.none_of h
  refine ⟨?_, fun l C' hm => ?_, fun a ha => ?_⟩
  · rw [List.map_append, List.nodup_append]
    refine ⟨O.nd, by simp, fun a ha b hb => ?_⟩
    have e : b = p := by simpa using hb
    rw [e]
    exact fun z => h3 (z ▸ ha)
  · rcases List.mem_append.mp hm with hm | hm
    · obtain ⟨q1, q2, o', q3, q4⟩ := O.ow l C' hm
      have hne : l ≠ p := fun z => h3 (z ▸ mem_addr hm)
      exact ⟨q1, q2, o', by rw [upd_ne hne]; exact q3, q4⟩
    · have e : (l, C') = (p, C) := by simpa using hm
      cases e
      exact ⟨h1, h2, o, upd_same, c⟩
  · have e : a ∉ ω.map (·.1) ∧ a ≠ p := by
      constructor
      · exact fun z => ha (by rw [List.map_append]; exact List.mem_append_left _ z)
      · rintro rfl; exact ha (by simp)
    rw [upd_ne e.2]
    exact O.fr a e.1
theorem Own.cons (O : Own F ω B H) (h : H p = none) (c : C.p B o) : Own F ((p, C) :: ω) B (upd H p o) := by
  have q := O.add h c
  refine ⟨?_, fun l C' hm => q.ow l C' ?_, fun a ha => q.fr a ?_⟩
  · obtain ⟨_, _, h3⟩ := O.none_of h
    exact List.nodup_cons.mpr ⟨h3, O.nd⟩
  · rcases List.mem_cons.mp hm with z | z
    · exact List.mem_append_right _ (by simp [z])
    · exact List.mem_append_left _ z
  · intro z
    apply ha
    rw [List.map_append] at z
    rcases List.mem_append.mp z with z | z
    · exact List.mem_cons_of_mem _ z
    · have : a = p := by simpa using z
      rw [this]; exact List.mem_cons_self
theorem Swp.mem : ∀ {ω ω' : Ws} {l : Addr} {C C' : Co}, Swp ω l C C' ω' → (l, C) ∈ ω
  | _, _, _, _, _, .z => List.mem_cons_self
  | _, _, _, _, _, .s h => List.mem_cons_of_mem _ h.mem
theorem Swp.addrs : ∀ {ω ω' : Ws} {l : Addr} {C C' : Co}, Swp ω l C C' ω' → ω'.map (·.1) = ω.map (·.1)
  | _, _, _, _, _, .z => rfl
  | _, _, _, _, _, .s h => by simp [h.addrs]
theorem Swp.mem' : ∀ {ω ω' : Ws} {l m : Addr} {C C' D : Co}, Swp ω l C C' ω' → (m, D) ∈ ω' → (m, D) = (l, C') ∨ (m, D) ∈ ω
  | _, _, _, _, _, _, _, .z, h => (List.mem_cons.mp h).elim .inl fun z => .inr (List.mem_cons_of_mem _ z)
  | _, _, _, _, _, _, _, .s q, h => (List.mem_cons.mp h).elim (fun z => .inr (by rw [z]; exact List.mem_cons_self)) fun z => (q.mem' z).elim .inl fun z => .inr (List.mem_cons_of_mem _ z)
theorem nodup_addr : ∀ {ω : Ws}, (ω.map (·.1)).Nodup → ∀ {l : Addr} {C D : Co}, (l, C) ∈ ω → (l, D) ∈ ω → C = D
  | [], _, _, _, _, h, _ => by cases h
  | e :: ω, nd, l, C, D, h1, h2 => by
    rw [List.map_cons, List.nodup_cons] at nd
    rcases List.mem_cons.mp h1 with z1 | z1
    · subst z1
      rcases List.mem_cons.mp h2 with z2 | z2
      · cases z2; rfl
      · exact absurd (mem_addr z2) nd.1
    · rcases List.mem_cons.mp h2 with z2 | z2
      · subst z2
        exact absurd (mem_addr z1) nd.1
      · exact nodup_addr nd.2 z1 z2
/-- an owned thing is written -/
theorem Own.swp (O : Own F ω B H) (s : Swp ω l C C' ω') (c : C'.p B o) : Own F ω' B (upd H l o) := by
  have hl := O.ow l C s.mem
  refine ⟨by rw [s.addrs]; exact O.nd, fun m D hm => ?_, fun a ha => ?_⟩
  · by_cases z : m = l
    · subst z
      rcases s.mem' hm with e | e
      · cases e
        exact ⟨hl.1, hl.2.1, o, upd_same, c⟩
      · -- the same address: it is the swapped one
        have e1 : (m, C') ∈ ω' := by
          clear hl hm e c O
          induction s with
          | z => exact List.mem_cons_self
          | s _ ih => exact List.mem_cons_of_mem _ ih
        have e2 := nodup_addr (by rw [s.addrs]; exact O.nd) hm e1
        subst e2
        exact ⟨hl.1, hl.2.1, o, upd_same, c⟩
    · rcases s.mem' hm with e | e
      · cases e; exact absurd rfl z
      · rw [upd_ne z]; exact O.ow m D e
  · rw [s.addrs] at ha
    have z : a ≠ l := fun z => ha (z ▸ mem_addr s.mem)
    rw [upd_ne z]
    exact O.fr a ha
theorem Tak.mem : ∀ {ω ω' : Ws} {l : Addr} {C : Co}, Tak ω l C ω' → (l, C) ∈ ω
  | _, _, _, _, .z => List.mem_cons_self
  | _, _, _, _, .s h => List.mem_cons_of_mem _ h.mem
theorem Tak.sub : ∀ {ω ω' : Ws} {l : Addr} {C : Co} {e : Addr × Co}, Tak ω l C ω' → e ∈ ω' → e ∈ ω
  | _, _, _, _, _, .z, h => List.mem_cons_of_mem _ h
  | _, _, _, _, _, .s q, h => (List.mem_cons.mp h).elim (fun z => by rw [z]; exact List.mem_cons_self) fun z => List.mem_cons_of_mem _ (q.sub z)
theorem Tak.cov : ∀ {ω ω' : Ws} {l a : Addr} {C : Co}, Tak ω l C ω' → a ∈ ω.map (·.1) → a = l ∨ a ∈ ω'.map (·.1)
  | _, _, _, _, _, .z, h => by
    rcases List.mem_cons.mp h with z | z
    · exact .inl z
    · exact .inr z
  | _, _, _, _, _, .s q, h => by
    rcases List.mem_cons.mp h with z | z
    · exact .inr (by rw [z]; exact List.mem_cons_self)
    · exact (q.cov z).elim .inl fun z => .inr (List.mem_cons_of_mem _ z)
theorem Tak.sublist : ∀ {ω ω' : Ws} {l : Addr} {C : Co}, Tak ω l C ω' → (ω'.map (·.1)).Sublist (ω.map (·.1))
  | _, _, _, _, .z => List.Sublist.cons _ (List.Sublist.refl _)
  | _, _, _, _, .s h => by
    rw [List.map_cons, List.map_cons]
    exact List.Sublist.cons_cons _ h.sublist
theorem Tak.not : ∀ {ω ω' : Ws} {l : Addr} {C : Co}, Tak ω l C ω' → (ω.map (·.1)).Nodup → l ∉ ω'.map (·.1)
  | _, _, _, _, .z, nd => (List.nodup_cons.mp nd).1
  | _, _, _, _, .s h, nd => by
    rw [List.map_cons, List.nodup_cons] at nd
    rw [List.map_cons]
    intro z
    rcases List.mem_cons.mp z with z | z
    · exact nd.1 (by rw [← z]; exact mem_addr h.mem)
    · exact h.not nd.2 z
/-- an owned thing is frozen -/
theorem Own.freeze (O : Own F ω B H) (t : Tak ω l C ω') : ∃ o, H l = some o ∧ C.p B o ∧ Own F ω' (upd B l o) H ∧ Ex B (upd B l o) := by
  obtain ⟨h1, h2, o, h3, h4⟩ := O.ow l C t.mem
  have e : Ex B (upd B l o) := Ex.new h1
  refine ⟨o, h3, h4, ⟨O.nd.sublist t.sublist, fun m D hm => ?_, fun a ha => ?_⟩, e⟩
  · obtain ⟨q1, q2, o', q3, q4⟩ := O.ow m D (t.sub hm)
    have z : m ≠ l := fun z => t.not O.nd (z ▸ mem_addr hm)
    exact ⟨by rw [upd_ne z]; exact q1, q2, o', q3, D.mono e q4⟩
  · by_cases z : a = l
    · subst z
      exact ⟨.inr h2, by rw [upd_same, h3]; rfl⟩
    · rw [upd_ne z]
      exact O.fr a fun q => (t.cov q).elim z ha
/-- all owned things behind ω are frozen -/
theorem Own.drop : ∀ {ω2 : Ws} {B : Hp}, Own F (ω ++ ω2) B H → ∃ B', Ex B B' ∧ Own F ω B' H
  | [], B, O => ⟨B, Ex.refl B, by rw [List.append_nil] at O; exact O⟩
  | (l, C) :: ω2, B, O => by
    have t : ∀ ω : Ws, Tak (ω ++ (l, C) :: ω2) l C (ω ++ ω2) := fun ω => by
      induction ω with
      | nil => exact .z
      | cons e ω ih => exact .s ih
    obtain ⟨o, _, _, O', e⟩ := O.freeze (t ω)
    obtain ⟨B', e', O''⟩ := Own.drop (ω2 := ω2) O'
    exact ⟨B', e.trans e', O''⟩
/-- what is owned beside, as a frame -/
def frame (F : Hp) (ω2 : Ws) (H : Hp) : Hp := fun a => if a ∈ ω2.map (·.1) then H a else F a
theorem Own.focus {ω2 : Ws} (O : Own F (ω ++ ω2) B H) : Own (frame F ω2 H) ω B H := by
  have nd := O.nd
  rw [List.map_append, List.nodup_append] at nd
  refine ⟨nd.1, fun l C hm => ?_, fun a ha => ?_⟩
  · obtain ⟨h1, h2, h3⟩ := O.ow l C (List.mem_append_left _ hm)
    refine ⟨h1, ?_, h3⟩
    unfold frame
    rw [if_neg (fun z => nd.2.2 l (mem_addr hm) l z rfl)]
    exact h2
  · unfold frame
    by_cases z : a ∈ ω2.map (·.1)
    · rw [if_pos z]
      obtain ⟨⟨l, C⟩, hm, rfl⟩ := List.mem_map.mp z
      obtain ⟨h1, _, _⟩ := O.ow l C (List.mem_append_right _ hm)
      exact ⟨.inl h1, by rw [h1]; rfl⟩
    · rw [if_neg z]
      exact O.fr a (by rw [List.map_append]; exact fun q => (List.mem_append.mp q).elim ha z)
theorem Own.unfocus {ω2 : Ws} (O : Own F (ω ++ ω2) B H) (e : Ex B B') (O' : Own (frame F ω2 H) ω' B' H') (hd : ω'.map (·.1) = ω.map (·.1)) : Own F (ω' ++ ω2) B' H' := by
  have nd := O.nd
  have hnd : ((ω' ++ ω2).map (·.1)).Nodup := by
    rw [List.map_append, hd, ← List.map_append]; exact nd
  rw [List.map_append, List.nodup_append] at nd
  have inω2 : ∀ l C, (l, C) ∈ ω2 → B' l = none ∧ H' l = H l := fun l C hm => by
    have hl : l ∉ ω'.map (·.1) := by rw [hd]; exact fun z => nd.2.2 l z l (mem_addr hm) rfl
    obtain ⟨q1, q2⟩ := O'.fr l hl
    have hf : frame F ω2 H l = H l := by unfold frame; rw [if_pos (mem_addr hm)]
    obtain ⟨_, _, o, h3, _⟩ := O.ow l C (List.mem_append_right _ hm)
    rw [hf] at q1 q2
    have hb : B' l = none := by
      rcases q1 with z | z
      · exact z
      · rw [h3] at z; cases z
    rw [hb] at q2
    exact ⟨hb, q2⟩
  refine ⟨hnd, fun l C hm => ?_, fun a ha => ?_⟩
  · rcases List.mem_append.mp hm with hm | hm
    · obtain ⟨h1, h2, h3⟩ := O'.ow l C hm
      refine ⟨h1, ?_, h3⟩
      have hl : l ∉ ω2.map (·.1) := fun z => nd.2.2 l (by rw [← hd]; exact mem_addr hm) l z rfl
      unfold frame at h2
      rw [if_neg hl] at h2
      exact h2
    · obtain ⟨_, h2, o, h3, h4⟩ := O.ow l C (List.mem_append_right _ hm)
      obtain ⟨q1, q2⟩ := inω2 l C hm
      exact ⟨q1, h2, o, by rw [q2]; exact h3, C.mono e h4⟩
  · rw [List.map_append] at ha
    have h1 : a ∉ ω'.map (·.1) := fun z => ha (List.mem_append_left _ z)
    have h2 : a ∉ ω2.map (·.1) := fun z => ha (List.mem_append_right _ z)
    have q := O'.fr a h1
    unfold frame at q
    rw [if_neg h2] at q
    exact q
end
end ZZ

set_option maxHeartbeats 2000000
/-! Z2: judgements over the text itself. -/
namespace ZZ
open PySem PySem.Spec PyProof.Rows L2
open Evl (Ex)

/-! ### the weakest readings -/
def tW (X : Cx) (e : Expr) : TE := fun σ H Q => ∀ pins s, Inv X pins σ H s → wpAny (model X.prog X.w) X.A (eval e X.env) (EP X pins σ Q) X.xe s
def tT (X : Cx) (e : Expr) : TT := fun σ H Q => ∀ pins s, Inv X pins σ H s → wpAny (model X.prog X.w) X.A (isTrue e X.env (eval e X.env)) (TP X pins σ Q) X.xe s
def tV (X : Cx) (e : Expr) : TT := fun σ H Q => ∀ whole pins s, Inv X pins σ H s → wpAny (model X.prog X.w) X.A (isTrue e X.env whole) (TP X pins σ Q) X.xe s
def tA (X : Cx) (es : List Expr) : TA := fun σ H Q => ∀ pos pins s, Inv X pins σ H s → wpAny (model X.prog X.w) X.A (spliced (backTo pos (starEach es X.env))) (AP X pins σ Q) X.xe s
def tS (X : Cx) (sts : List Stmt) : TS := fun D σ H => ∀ pins s, Inv X pins σ H s → wpAny (model X.prog X.w) X.A (execs sts X.env) (SP X pins D) X.xe s
section
variable {X : Cx} {e : Expr} {es : List Expr} {sts rest : List Stmt} {st : Stmt} {t : TE} {tt : TT} {ta : TA} {ts : TS} {σ : L2.St} {H : Hp} {D : Ends}
theorem pe_w : PE X e (tW X e) := ⟨fun pins s _ _ _ I h => h pins s I⟩
theorem pt_w : PT X e (tT X e) := ⟨fun pins s _ _ _ I h => h pins s I⟩
theorem pv_w : PW X e (tV X e) := ⟨fun wh pins s _ _ _ I h => h wh pins s I⟩
theorem pa_w : PA X es (tA X es) := ⟨fun pos pins s _ _ _ I h => h pos pins s I⟩
theorem pss_w : PSs X sts (tS X sts) := ⟨fun pins s _ _ _ I h => h pins s I⟩
theorem tW.of {Q : VK} (h : PE X e t) (q : t σ H Q) : tW X e σ H Q := fun pins s I => h.run pins s σ H Q I q
theorem tT.of {Q : Bool → Hp → Prop} (h : PT X e tt) (q : tt σ H Q) : tT X e σ H Q := fun pins s I => h.run pins s σ H Q I q
theorem tV.of {Q : Bool → Hp → Prop} (h : PW X e tt) (q : tt σ H Q) : tV X e σ H Q := fun wh pins s I => h.run wh pins s σ H Q I q
theorem tA.of {Q : List V → Hp → Prop} (h : PA X es ta) (q : ta σ H Q) : tA X es σ H Q := fun pos pins s I => h.run pos pins s σ H Q I q
theorem tS.of (h : PSs X sts ts) (q : ts D σ H) : tS X sts D σ H := fun pins s I => h.run pins s σ H D I q
/-- a statement, then the rest -/
theorem tS.cons (h : PS X st ts) (q : ts { D with nx := tS X rest D } σ H) : tS X (st :: rest) D σ H := tS.of (pss_cons h pss_w) q
end

/-! ### where a body stands -/
structure Mo where
  P : Program
  w : World
  K : PySem.W.Frag
  mg : Str → Option Value
  base : Heap
structure Cc where
  M : Mo
  sc : Scope
  k : Nat
  cl : Bool := true
  hot : Bool := false
structure Fits (c : Cc) (N : List Str) (X : Cx) : Prop where
  prog : X.prog = c.M.P
  w : X.w = c.M.w
  K : X.K = c.M.K
  mg : X.mg = c.M.mg
  base : X.base = c.M.base
  sc : X.env.scope = c.sc
  ns : X.N = N
  nd : N.Nodup
  calm0 : c.hot = false → X.calm = true
  room0 : c.hot = false → Room c.k X.A
  roomH : L2H.RoomH c.k X.A
  hotc : c.hot = true → L2H.HotC X
  cell : c.cl = true → ∀ x, c.sc.names.lookup x = some .cell → X.fn x = true
  pass : PassesOwn (model X.prog X.w) X.A X.env X.xe
/-- no exception is being handled -/
class Cold (c : Cc) : Prop where
  out : c.hot = false
instance {M : Mo} {sc : Scope} {k : Nat} {cl : Bool} : Cold ⟨M, sc, k, cl, false⟩ := ⟨rfl⟩

theorem Fits.calm {c : Cc} [h : Cold c] {N : List Str} {X : Cx} (fx : Fits c N X) : X.calm = true := fx.calm0 h.out
theorem Fits.room {c : Cc} [h : Cold c] {N : List Str} {X : Cx} (fx : Fits c N X) : Room c.k X.A := fx.room0 h.out

/-! ### the judgements -/
def DE (c : Cc) (Γ : En) (ω : Ws) (e : Expr) (S : Sh) (ω' : Ws) : Prop :=
  ∀ X, Fits c (Γ.map (·.1)) X → ∀ F σ B H, EnvOk Γ σ B → Own F ω B H → ∀ Q : VK, (∀ v B' H', Ex B B' → Own F ω' B' H' → S.p B' v → Q v H') → tW X e σ H Q
def DT (c : Cc) (Γ : En) (ω : Ws) (e : Expr) (R : Bool → Prop) (ω' : Ws) : Prop :=
  ∀ X, Fits c (Γ.map (·.1)) X → ∀ F σ B H, EnvOk Γ σ B → Own F ω B H → ∀ Q : Bool → Hp → Prop, (∀ b B' H', Ex B B' → Own F ω' B' H' → R b → Q b H') → tT X e σ H Q
def DV (c : Cc) (Γ : En) (ω : Ws) (e : Expr) (R : Bool → Prop) (ω' : Ws) : Prop :=
  ∀ X, Fits c (Γ.map (·.1)) X → ∀ F σ B H, EnvOk Γ σ B → Own F ω B H → ∀ Q : Bool → Hp → Prop, (∀ b B' H', Ex B B' → Own F ω' B' H' → R b → Q b H') → tV X e σ H Q
def DA (c : Cc) (Γ : En) (ω : Ws) (es : List Expr) (ss : List Sh) (ω' : Ws) : Prop :=
  ∀ X, Fits c (Γ.map (·.1)) X → ∀ F σ B H, EnvOk Γ σ B → Own F ω B H → ∀ Q : List V → Hp → Prop, (∀ vs B' H', Ex B B' → Own F ω' B' H' → All2 (fun v (s : Sh) => s.p B' v) vs ss → Q vs H') → tA X es σ H Q
def DS (c : Cc) (X : Cx) (B0 F : Hp) (D : Ends) (Γ : En) (ω : Ws) (sts : List Stmt) : Prop :=
  Fits c (Γ.map (·.1)) X → ∀ σ B H, Ex B0 B → EnvOk Γ σ B → Own F ω B H → tS X sts D σ H
/-- an operation of two values, one value, a list of values, by shapes -/
def RR (r : R2) (SA SB S : Sh) : Prop := ∀ F ω B H v u, SA.p B v → SB.p B u → Own F ω B H → ∀ Q : VK, (∀ z B' H', Ex B B' → Own F ω B' H' → S.p B' z → Q z H') → r v u H Q
def RU (r : V → Hp → VK → Prop) (SA S : Sh) : Prop := ∀ F ω B H v, SA.p B v → Own F ω B H → ∀ Q : VK, (∀ z B' H', Ex B B' → Own F ω B' H' → S.p B' z → Q z H') → r v H Q
def RC (r : List V → Hp → VK → Prop) (ss : List Sh) (S : Sh) : Prop := ∀ F ω B H vs, All2 (fun v (s : Sh) => s.p B v) vs ss → Own F ω B H → ∀ Q : VK, (∀ z B' H', Ex B B' → Own F ω B' H' → S.p B' z → Q z H') → r vs H Q

section
variable {c : Cc} {Γ : En} {ω ω1 ω2 ω3 : Ws} {a b d e : Expr} {es : List Expr} {S SA SB T : Sh} {R R1 R2 : Bool → Prop} {pos p : Pos} {x : Str}

theorem DE.wide (h : DE c Γ ω e S ω1) (w : Sle S T) : DE c Γ ω e T ω1 := fun X fx F σ B H hE hO Q hQ => h X fx F σ B H hE hO Q fun v B' H' e1 O1 p1 => hQ v B' H' e1 O1 (w _ _ p1)
theorem DT.wide (h : DT c Γ ω e R ω1) (w : ∀ b, R b → R1 b) : DT c Γ ω e R1 ω1 := fun X fx F σ B H hE hO Q hQ => h X fx F σ B H hE hO Q fun v B' H' e1 O1 p1 => hQ v B' H' e1 O1 (w _ p1)

/-! ### names, constants -/
theorem d_name (hh : Has Γ x S) (hv : Vis c.sc x := by first | exact Or.inl rfl | exact Or.inr (Or.inl rfl) | exact Or.inr (Or.inr rfl)) (hd : (x == ("__debug__" : Str)) = false := by decide)
    (hcd : (x == ("__classdict__" : Str)) = false := by decide) : DE c Γ ω (.Name x p) S ω := by
  intro X fx F σ B H hE hO Q hQ
  obtain ⟨i, v, h1, h2, h3⟩ := hh.get hE
  exact tW.of (pe_var (i := i) (by rw [fx.ns]; exact h1) (by rw [fx.sc]; exact hv) hd hcd) ⟨v, h2, hQ v B H (Ex.refl B) hO h3⟩
theorem d_c {v : V} (h : ∀ X, PE X e (tC v)) : DE c Γ ω e (Sc v) ω := fun X fx F σ B H hE hO Q hQ => tW.of (h X) (hQ v B H (Ex.refl B) hO rfl)
theorem d_int {i : Int} {j} : DE c Γ ω (.Constant (.int i) j p) (I i) ω := d_c fun _ => pe_int
theorem d_bool {i : Bool} {j} : DE c Γ ω (.Constant (.bool i) j p) (Bo i) ω := d_c fun _ => pe_bl
theorem d_none {j} : DE c Γ ω (.Constant .none j p) No ω := d_c fun _ => pe_non
theorem d_str {i : Str} {j} : DE c Γ ω (.Constant (.str i) j p) (Tx i) ω := d_c fun _ => pe_str

/-! ### operators -/
theorem d_bin {op : Operator} {r : L2.R2} (ho : ∀ X, OpR X (binaryOp op) r) (ha : DE c Γ ω a SA ω1) (hb : DE c Γ ω1 b SB ω2) (hr : RR r SA SB S) : DE c Γ ω (.BinOp a op b pos) S ω2 := by
  intro X fx F σ B H hE hO Q hQ
  refine tW.of (pe_op (ho X) pe_w pe_w) ?_
  refine ha X fx F σ B H hE hO _ fun v B1 H1 e1 O1 p1 => ?_
  refine hb X fx F σ B1 H1 (hE.mono e1) O1 _ fun u B2 H2 e2 O2 p2 => ?_
  exact hr F ω2 B2 H2 v u (SA.mono e2 p1) p2 O2 Q fun z B' H' e3 O3 p3 => hQ z B' H' ((e1.trans e2).trans e3) O3 p3
theorem d_un {op : UnaryOp} {r : V → Hp → VK → Prop} (ho : ∀ X, UnR X (unaryOp op) r) (ha : DE c Γ ω a SA ω1) (hr : RU r SA S) : DE c Γ ω (.UnaryOp op a pos) S ω1 := by
  intro X fx F σ B H hE hO Q hQ
  refine tW.of (pe_un (ho X) pe_w) ?_
  refine ha X fx F σ B H hE hO _ fun v B1 H1 e1 O1 p1 => ?_
  exact hr F ω1 B1 H1 v p1 O1 Q fun z B' H' e3 O3 p3 => hQ z B' H' (e1.trans e3) O3 p3
theorem rr_I0 {g : Int → Int → V} {i j : Int} : RR (rI0 g) (I i) (I j) (Sc (g i j)) := fun F ω B H v u h1 h2 O Q q => ⟨i, j, h1, h2, q _ B H (Ex.refl B) O rfl⟩
theorem rr_I {C : Int → Int → Prop} {g : Int → Int → V} {i j : Int} (hc : C i j) : RR (rI C g) (I i) (I j) (Sc (g i j)) := fun F ω B H v u h1 h2 O Q q => ⟨i, j, h1, h2, hc, q _ B H (Ex.refl B) O rfl⟩
/-- numbers that are known up to a word -/
abbrev Ei (P : Int → Prop) : Sh := Es P I
theorem rr_E0 {g : Int → Int → V} {P Q' : Int → Prop} {α : Type} {W : α → Prop} {R : α → Sh} (h : ∀ i j, P i → Q' j → ∃ x, W x ∧ ∀ B, (R x).p B (g i j)) : RR (rI0 g) (Ei P) (Ei Q') (Es W R) := fun F ω B H v u h1 h2 O Q q => by
  obtain ⟨i, hi, e1⟩ := h1
  obtain ⟨j, hj, e2⟩ := h2
  obtain ⟨x, hx, hR⟩ := h i j hi hj
  exact ⟨i, j, e1, e2, q _ B H (Ex.refl B) O ⟨x, hx, hR B⟩⟩
theorem rr_E {C : Int → Int → Prop} {g : Int → Int → V} {P Q' : Int → Prop} {α : Type} {W : α → Prop} {R : α → Sh} (h : ∀ i j, P i → Q' j → C i j ∧ ∃ x, W x ∧ ∀ B, (R x).p B (g i j)) : RR (rI C g) (Ei P) (Ei Q') (Es W R) := fun F ω B H v u h1 h2 O Q q => by
  obtain ⟨i, hi, e1⟩ := h1
  obtain ⟨j, hj, e2⟩ := h2
  obtain ⟨hc, x, hx, hR⟩ := h i j hi hj
  exact ⟨i, j, e1, e2, hc, q _ B H (Ex.refl B) O ⟨x, hx, hR B⟩⟩
theorem d_add {i j : Int} (ha : DE c Γ ω a (I i) ω1) (hb : DE c Γ ω1 b (I j) ω2) : DE c Γ ω (.BinOp a .Add b pos) (I (i + j)) ω2 := d_bin (fun _ => op_add) ha hb rr_I0
theorem d_sub {i j : Int} (ha : DE c Γ ω a (I i) ω1) (hb : DE c Γ ω1 b (I j) ω2) : DE c Γ ω (.BinOp a .Sub b pos) (I (i - j)) ω2 := d_bin (fun _ => op_sub) ha hb rr_I0
theorem d_mul {i j : Int} (ha : DE c Γ ω a (I i) ω1) (hb : DE c Γ ω1 b (I j) ω2) (hc : CMul i j) : DE c Γ ω (.BinOp a .Mult b pos) (I (i * j)) ω2 := d_bin (fun _ => op_mul) ha hb (rr_I hc)
theorem d_div {i j : Int} (ha : DE c Γ ω a (I i) ω1) (hb : DE c Γ ω1 b (I j) ω2) (hc : CDiv i j) : DE c Γ ω (.BinOp a .FloorDiv b pos) (I (i / j)) ω2 := d_bin (fun _ => op_fdiv) ha hb (rr_I hc)
theorem d_mod {i j : Int} (ha : DE c Γ ω a (I i) ω1) (hb : DE c Γ ω1 b (I j) ω2) (hc : 0 < j) : DE c Γ ω (.BinOp a .Mod b pos) (I (i % j)) ω2 := d_bin (fun _ => op_mod) ha hb (rr_I hc)
theorem d_neg {i : Int} (ha : DE c Γ ω a (I i) ω1) : DE c Γ ω (.UnaryOp .USub a pos) (I (-i)) ω1 := d_un (fun _ => un_neg) ha fun F ω B H v h1 O Q q => ⟨i, h1, q _ B H (Ex.refl B) O rfl⟩
/-- numbers known up to a word -/
theorem DE.some {i : Int} (h : DE c Γ ω e (I i) ω1) : DE c Γ ω e (Ei (· = i)) ω1 := h.wide fun _ _ q => ⟨i, rfl, q⟩

/-! ### comparisons -/
theorem d_cmp {op : CmpOp} {r : L2.R2} (ho : ∀ X, Fits c (Γ.map (·.1)) X → OpR X (compareOp op) r) (ha : DE c Γ ω a SA ω1) (hb : DE c Γ ω1 b SB ω2) (hr : RR r SA SB S) (hm : behindInMarks op b = false) : DE c Γ ω (.Compare a [op] [b] pos) S ω2 := by
  intro X fx F σ B H hE hO Q hQ
  refine tW.of (pe_cmpR (ho X fx) pe_w pe_w hm) ?_
  refine ha X fx F σ B H hE hO _ fun v B1 H1 e1 O1 p1 => ?_
  refine hb X fx F σ B1 H1 (hE.mono e1) O1 _ fun u B2 H2 e2 O2 p2 => ?_
  exact hr F ω2 B2 H2 v u (SA.mono e2 p1) p2 O2 Q fun z B' H' e3 O3 p3 => hQ z B' H' ((e1.trans e2).trans e3) O3 p3
theorem t_cmp {op : CmpOp} {r : L2.R2} (ho : ∀ X, Fits c (Γ.map (·.1)) X → OpR X (compareOp op) r) (ha : DE c Γ ω a SA ω1) (hb : DE c Γ ω1 b SB ω2) (hr : RR r SA SB (Es R Bo)) (hm : behindInMarks op b = false) : DT c Γ ω (.Compare a [op] [b] pos) R ω2 := by
  intro X fx F σ B H hE hO Q hQ
  refine tT.of (pt_cmpR (ho X fx) pe_w pe_w hm) ?_
  refine ha X fx F σ B H hE hO _ fun v B1 H1 e1 O1 p1 => ?_
  refine hb X fx F σ B1 H1 (hE.mono e1) O1 _ fun u B2 H2 e2 O2 p2 => ?_
  refine hr F ω2 B2 H2 v u (SA.mono e2 p1) p2 O2 _ fun z B' H' e3 O3 p3 => ?_
  obtain ⟨k, hk, e⟩ := p3
  exact ⟨k, e, hQ k B' H' ((e1.trans e2).trans e3) O3 hk⟩
theorem Sle.tb {k : Bool} : Sle (Bo k) (Es (· = k) Bo) := fun _ _ q => ⟨k, rfl, q⟩
theorem RR.wide {r : L2.R2} (h : RR r SA SB S) (w : Sle S T) : RR r SA SB T := fun F ω B H v u h1 h2 O Q q => h F ω B H v u h1 h2 O Q fun z B' H' e3 O3 p3 => q z B' H' e3 O3 (w _ _ p3)
theorem rr_eq {v u : V} (hs : scal v u = true) : RR rEq (Sc v) (Sc u) (Bo (decide (v = u))) := fun F ω B H x y h1 h2 O Q q => by
  have h1 : x = v := h1
  have h2 : y = u := h2
  subst h1 h2
  exact ⟨hs, q _ B H (Ex.refl B) O rfl⟩
theorem rr_ne {v u : V} (hs : scal v u = true) : RR rNe (Sc v) (Sc u) (Bo (!decide (v = u))) := fun F ω B H x y h1 h2 O Q q => by
  have h1 : x = v := h1
  have h2 : y = u := h2
  subst h1 h2
  exact ⟨hs, q _ B H (Ex.refl B) O rfl⟩
theorem vint {i j : Int} : decide (V.int i = V.int j) = decide (i = j) := by simp
theorem vstr {i j : Str} : decide (V.str i = V.str j) = decide (i = j) := by simp
section
variable {i j : Int} {s u : Str}
theorem t_lt (ha : DE c Γ ω a (I i) ω1) (hb : DE c Γ ω1 b (I j) ω2) : DT c Γ ω (.Compare a [.Lt] [b] pos) (· = decide (i < j)) ω2 := t_cmp (fun _ _ => op_lt) ha hb (rr_I0.wide Sle.tb) (nomark _)
theorem t_le (ha : DE c Γ ω a (I i) ω1) (hb : DE c Γ ω1 b (I j) ω2) : DT c Γ ω (.Compare a [.LtE] [b] pos) (· = decide (i ≤ j)) ω2 := t_cmp (fun _ _ => op_le) ha hb (rr_I0.wide Sle.tb) (nomark _)
theorem t_gt (ha : DE c Γ ω a (I i) ω1) (hb : DE c Γ ω1 b (I j) ω2) : DT c Γ ω (.Compare a [.Gt] [b] pos) (· = decide (j < i)) ω2 := t_cmp (fun _ _ => op_gt) ha hb (rr_I0.wide Sle.tb) (nomark _)
theorem t_ge (ha : DE c Γ ω a (I i) ω1) (hb : DE c Γ ω1 b (I j) ω2) : DT c Γ ω (.Compare a [.GtE] [b] pos) (· = decide (j ≤ i)) ω2 := t_cmp (fun _ _ => op_ge) ha hb (rr_I0.wide Sle.tb) (nomark _)
theorem t_eqI (ha : DE c Γ ω a (I i) ω1) (hb : DE c Γ ω1 b (I j) ω2) : DT c Γ ω (.Compare a [.Eq] [b] pos) (· = decide (i = j)) ω2 := t_cmp (fun _ _ => op_eq) ha hb ((rr_eq rfl).wide (by rw [vint]; exact Sle.tb)) (nomark _)
theorem t_neI (ha : DE c Γ ω a (I i) ω1) (hb : DE c Γ ω1 b (I j) ω2) : DT c Γ ω (.Compare a [.NotEq] [b] pos) (· = !decide (i = j)) ω2 := t_cmp (fun _ _ => op_ne) ha hb ((rr_ne rfl).wide (by rw [vint]; exact Sle.tb)) (nomark _)
theorem t_eqS (ha : DE c Γ ω a (Tx s) ω1) (hb : DE c Γ ω1 b (Tx u) ω2) : DT c Γ ω (.Compare a [.Eq] [b] pos) (· = decide (s = u)) ω2 := t_cmp (fun _ _ => op_eq) ha hb ((rr_eq rfl).wide (by rw [vstr]; exact Sle.tb)) (nomark _)
theorem t_neS (ha : DE c Γ ω a (Tx s) ω1) (hb : DE c Γ ω1 b (Tx u) ω2) : DT c Γ ω (.Compare a [.NotEq] [b] pos) (· = !decide (s = u)) ω2 := t_cmp (fun _ _ => op_ne) ha hb ((rr_ne rfl).wide (by rw [vstr]; exact Sle.tb)) (nomark _)
theorem d_lt (ha : DE c Γ ω a (I i) ω1) (hb : DE c Γ ω1 b (I j) ω2) : DE c Γ ω (.Compare a [.Lt] [b] pos) (Bo (decide (i < j))) ω2 := d_cmp (fun _ _ => op_lt) ha hb rr_I0 (nomark _)
theorem d_le (ha : DE c Γ ω a (I i) ω1) (hb : DE c Γ ω1 b (I j) ω2) : DE c Γ ω (.Compare a [.LtE] [b] pos) (Bo (decide (i ≤ j))) ω2 := d_cmp (fun _ _ => op_le) ha hb rr_I0 (nomark _)
theorem d_gt (ha : DE c Γ ω a (I i) ω1) (hb : DE c Γ ω1 b (I j) ω2) : DE c Γ ω (.Compare a [.Gt] [b] pos) (Bo (decide (j < i))) ω2 := d_cmp (fun _ _ => op_gt) ha hb rr_I0 (nomark _)
theorem d_ge (ha : DE c Γ ω a (I i) ω1) (hb : DE c Γ ω1 b (I j) ω2) : DE c Γ ω (.Compare a [.GtE] [b] pos) (Bo (decide (j ≤ i))) ω2 := d_cmp (fun _ _ => op_ge) ha hb rr_I0 (nomark _)
theorem d_eqI (ha : DE c Γ ω a (I i) ω1) (hb : DE c Γ ω1 b (I j) ω2) : DE c Γ ω (.Compare a [.Eq] [b] pos) (Bo (decide (i = j))) ω2 := d_cmp (fun _ _ => op_eq) ha hb (by rw [← vint]; exact rr_eq rfl) (nomark _)
theorem d_neI (ha : DE c Γ ω a (I i) ω1) (hb : DE c Γ ω1 b (I j) ω2) : DE c Γ ω (.Compare a [.NotEq] [b] pos) (Bo (!decide (i = j))) ω2 := d_cmp (fun _ _ => op_ne) ha hb (by rw [← vint]; exact rr_ne rfl) (nomark _)
theorem d_eqS (ha : DE c Γ ω a (Tx s) ω1) (hb : DE c Γ ω1 b (Tx u) ω2) : DE c Γ ω (.Compare a [.Eq] [b] pos) (Bo (decide (s = u))) ω2 := d_cmp (fun _ _ => op_eq) ha hb (by rw [← vstr]; exact rr_eq rfl) (nomark _)
end
/-- is None, of any shape that says whether it is -/
def NonB (S : Sh) (k : Bool) : Prop := ∀ B v, S.p B v → decide (v = V.non) = k
theorem nonb_sc {v : V} : NonB (Sc v) (decide (v = .non)) := fun B u h => by
  have h : u = v := h
  rw [h]
theorem nonb_seq {b : Bool} {α : Type} {R : α → Sh} {xs : List α} : NonB (Sq b R xs) false := fun B u h => by
  obtain ⟨a, vs, rfl, _⟩ := h
  rfl
theorem nonb_tup {ss : List Sh} : NonB (U ss) false := fun B u h => by
  obtain ⟨a, vs, rfl, _⟩ := h
  rfl
theorem t_isN {k : Bool} {j p'} (ha : DE c Γ ω a SA ω1) (h : NonB SA k) : DT c Γ ω (.Compare a [.Is] [.Constant .none j p'] pos) (· = k) ω1 :=
  t_cmp (fun _ _ => op_isN) ha d_none (fun F ω B H v u h1 h2 O Q q => ⟨h2, q _ B H (Ex.refl B) O ⟨_, h _ _ h1, rfl⟩⟩) (nomark _)
theorem t_notN {k : Bool} {j p'} (ha : DE c Γ ω a SA ω1) (h : NonB SA k) : DT c Γ ω (.Compare a [.IsNot] [.Constant .none j p'] pos) (· = !k) ω1 :=
  t_cmp (fun _ _ => op_notN) ha d_none (fun F ω B H v u h1 h2 O Q q => ⟨h2, q _ B H (Ex.refl B) O ⟨_, by rw [h _ _ h1], rfl⟩⟩) (nomark _)
theorem d_isN {k : Bool} {j p'} (ha : DE c Γ ω a SA ω1) (h : NonB SA k) : DE c Γ ω (.Compare a [.Is] [.Constant .none j p'] pos) (Bo k) ω1 :=
  d_cmp (fun _ _ => op_isN) ha d_none (fun F ω B H v u h1 h2 O Q q => ⟨h2, q _ B H (Ex.refl B) O (by show V.bl _ = V.bl _; rw [h _ _ h1])⟩) (nomark _)
/-- a <= b <= c of ints -/
theorem t_chain {o o' : CmpOp} {g g' : Int → Int → Bool} {i j l : Int} (h1 : ∀ X, OpR X (compareOp o) (rI0 fun i j => .bl (g i j))) (h2 : ∀ X, OpR X (compareOp o') (rI0 fun i j => .bl (g' i j))) (ha : DE c Γ ω a (I i) ω1) (hb : DE c Γ ω1 b (I j) ω2) (hc : DE c Γ ω2 d (I l) ω2)
    (hm : lastMarks [o, o'] [b, d] = false := by with_unfolding_all rfl) : DT c Γ ω (.Compare a [o, o'] [b, d] pos) (· = (g i j && g' j l)) ω2 := by
  intro X fx F σ B H hE hO Q hQ
  refine tT.of (pt_chain (h1 X) (h2 X) pe_w pe_w pe_w hm) ?_
  refine ha X fx F σ B H hE hO _ fun v B1 H1 e1 O1 p1 => ?_
  refine hb X fx F σ B1 H1 (hE.mono e1) O1 _ fun u B2 H2 e2 O2 p2 => ?_
  refine ⟨i, j, p1, p2, g i j, rfl, ?_⟩
  cases hg : g i j with
  | false =>
    rw [if_neg Bool.false_ne_true]
    exact ⟨false, rfl, hQ false B2 H2 (e1.trans e2) O2 (by rw [hg]; rfl)⟩
  | true =>
    rw [if_pos rfl]
    refine hc X fx F σ B2 H2 (hE.mono (e1.trans e2)) O2 _ fun z B3 H3 e3 O3 p3 => ?_
    exact ⟨j, l, p2, p3, g' j l, rfl, hQ _ B3 H3 ((e1.trans e2).trans e3) O3 (by rw [hg]; rfl)⟩

/-! ### tests -/
theorem t_val {k : Bool} (h : DE c Γ ω e (Bo k) ω1) (he : ∀ env whole, isTrue e env whole = (do let v ← whole; standAt e.pos; holding [v] (truthy v)) := by intro _ _; rfl) : DT c Γ ω e (· = k) ω1 := by
  intro X fx F σ B H hE hO Q hQ
  refine tT.of (pt_val pe_w (he _)) ?_
  exact h X fx F σ B H hE hO _ fun v B1 H1 e1 O1 p1 => ⟨k, p1, hQ k B1 H1 e1 O1 rfl⟩
theorem t_not (h : DT c Γ ω e R ω1) : DT c Γ ω (.UnaryOp .Not e pos) (fun b => R (!b)) ω1 := by
  intro X fx F σ B H hE hO Q hQ
  refine tT.of (pt_not pt_w) ?_
  exact h X fx F σ B H hE hO _ fun v B1 H1 e1 O1 p1 => hQ (!v) B1 H1 e1 O1 (by show R (!!v); rw [Bool.not_not]; exact p1)
theorem t_notD {k : Bool} (h : DT c Γ ω e (· = k) ω1) : DT c Γ ω (.UnaryOp .Not e pos) (· = !k) ω1 := (t_not h).wide fun b q => by
  have q : (!b) = k := q
  rw [← q, Bool.not_not]
theorem t_w (h : DV c Γ ω e R ω1) : DT c Γ ω e R ω1 := by
  intro X fx F σ B H hE hO Q hQ
  exact tT.of (PW.pt pv_w) (h X fx F σ B H hE hO Q hQ)
theorem v_and1 (h : DT c Γ ω a R ω1) : DV c Γ ω (.BoolOp .And [a] pos) R ω1 := fun X fx F σ B H hE hO Q hQ => tV.of (pw_and1 pt_w) (h X fx F σ B H hE hO Q hQ)
theorem v_or1 (h : DT c Γ ω a R ω1) : DV c Γ ω (.BoolOp .Or [a] pos) R ω1 := fun X fx F σ B H hE hO Q hQ => tV.of (pw_or1 pt_w) (h X fx F σ B H hE hO Q hQ)
theorem v_and {k l : Bool} (ha : DT c Γ ω a (· = k) ω) (hb : k = true → DV c Γ ω (.BoolOp .And (b :: es) pos) (· = l) ω) : DV c Γ ω (.BoolOp .And (a :: b :: es) pos) (· = (k && l)) ω := by
  intro X fx F σ B H hE hO Q hQ
  refine tV.of (pw_and pt_w pv_w) ?_
  refine ha X fx F σ B H hE hO _ fun v B1 H1 e1 O1 p1 => ?_
  have p1 : v = k := p1
  subst p1
  cases v with
  | false => exact hQ _ B1 H1 e1 O1 rfl
  | true => exact hb rfl X fx F σ B1 H1 (hE.mono e1) O1 _ fun u B2 H2 e2 O2 p2 => hQ u B2 H2 (e1.trans e2) O2 p2
theorem v_or {k l : Bool} (ha : DT c Γ ω a (· = k) ω) (hb : k = false → DV c Γ ω (.BoolOp .Or (b :: es) pos) (· = l) ω) : DV c Γ ω (.BoolOp .Or (a :: b :: es) pos) (· = (k || l)) ω := by
  intro X fx F σ B H hE hO Q hQ
  refine tV.of (pw_or pt_w pv_w) ?_
  refine ha X fx F σ B H hE hO _ fun v B1 H1 e1 O1 p1 => ?_
  have p1 : v = k := p1
  subst p1
  cases v with
  | true => exact hQ _ B1 H1 e1 O1 rfl
  | false => exact hb rfl X fx F σ B1 H1 (hE.mono e1) O1 _ fun u B2 H2 e2 O2 p2 => hQ u B2 H2 (e1.trans e2) O2 p2
/-- .. where the answer is not known -/
theorem v_andR {R2' : Bool → Prop} (ha : DT c Γ ω a R ω) (hb : R true → DV c Γ ω (.BoolOp .And (b :: es) pos) R2' ω) (hf : R false → R1 false) (ht : ∀ b, R true → R2' b → R1 b) : DV c Γ ω (.BoolOp .And (a :: b :: es) pos) R1 ω := by
  intro X fx F σ B H hE hO Q hQ
  refine tV.of (pw_and pt_w pv_w) ?_
  refine ha X fx F σ B H hE hO _ fun v B1 H1 e1 O1 p1 => ?_
  cases v with
  | false => exact hQ _ B1 H1 e1 O1 (hf p1)
  | true => exact hb p1 X fx F σ B1 H1 (hE.mono e1) O1 _ fun u B2 H2 e2 O2 p2 => hQ u B2 H2 (e1.trans e2) O2 (ht u p1 p2)
theorem v_orR {R2' : Bool → Prop} (ha : DT c Γ ω a R ω) (hb : R false → DV c Γ ω (.BoolOp .Or (b :: es) pos) R2' ω) (hf : R true → R1 true) (ht : ∀ b, R false → R2' b → R1 b) : DV c Γ ω (.BoolOp .Or (a :: b :: es) pos) R1 ω := by
  intro X fx F σ B H hE hO Q hQ
  refine tV.of (pw_or pt_w pv_w) ?_
  refine ha X fx F σ B H hE hO _ fun v B1 H1 e1 O1 p1 => ?_
  cases v with
  | true => exact hQ _ B1 H1 e1 O1 (hf p1)
  | false => exact hb p1 X fx F σ B1 H1 (hE.mono e1) O1 _ fun u B2 H2 e2 O2 p2 => hQ u B2 H2 (e1.trans e2) O2 (ht u p1 p2)
/-! ### and, or, not as values of truth -/
theorem d_one {op : BoolOp} (h : DE c Γ ω a S ω1) : DE c Γ ω (.BoolOp op [a] pos) S ω1 := fun X fx F σ B H hE hO Q hQ => tW.of (pe_one pe_w) (h X fx F σ B H hE hO Q hQ)
theorem d_and {k l : Bool} (ha : DE c Γ ω a (Bo k) ω) (hb : k = true → DE c Γ ω (.BoolOp .And (b :: es) pos) (Bo l) ω) : DE c Γ ω (.BoolOp .And (a :: b :: es) pos) (Bo (k && l)) ω := by
  intro X fx F σ B H hE hO Q hQ
  refine tW.of (pe_and pe_w pe_w) ?_
  refine ha X fx F σ B H hE hO _ fun v B1 H1 e1 O1 p1 => ⟨k, p1, ?_⟩
  cases k with
  | false => exact hQ _ B1 H1 e1 O1 rfl
  | true => exact hb rfl X fx F σ B1 H1 (hE.mono e1) O1 _ fun u B2 H2 e2 O2 p2 => hQ u B2 H2 (e1.trans e2) O2 p2
theorem d_or {k l : Bool} (ha : DE c Γ ω a (Bo k) ω) (hb : k = false → DE c Γ ω (.BoolOp .Or (b :: es) pos) (Bo l) ω) : DE c Γ ω (.BoolOp .Or (a :: b :: es) pos) (Bo (k || l)) ω := by
  intro X fx F σ B H hE hO Q hQ
  refine tW.of (pe_or pe_w pe_w) ?_
  refine ha X fx F σ B H hE hO _ fun v B1 H1 e1 O1 p1 => ⟨k, p1, ?_⟩
  cases k with
  | true => exact hQ _ B1 H1 e1 O1 rfl
  | false => exact hb rfl X fx F σ B1 H1 (hE.mono e1) O1 _ fun u B2 H2 e2 O2 p2 => hQ u B2 H2 (e1.trans e2) O2 p2
theorem d_not {k : Bool} (ha : DE c Γ ω a (Bo k) ω1) : DE c Γ ω (.UnaryOp .Not a pos) (Bo (!k)) ω1 := by
  intro X fx F σ B H hE hO Q hQ
  refine tW.of (pe_not pe_w) ?_
  exact ha X fx F σ B H hE hO _ fun v B1 H1 e1 O1 p1 => ⟨k, p1, hQ _ B1 H1 e1 O1 rfl⟩
theorem d_if {k : Bool} (ht : DT c Γ ω d (· = k) ω1) (ha : k = true → DE c Γ ω1 a S ω2) (hb : k = false → DE c Γ ω1 b S ω2) : DE c Γ ω (.IfExp d a b pos) S ω2 := by
  intro X fx F σ B H hE hO Q hQ
  refine tW.of (pe_ifExp pt_w pe_w pe_w) ?_
  refine ht X fx F σ B H hE hO _ fun v B1 H1 e1 O1 p1 => ?_
  have p1 : v = k := p1
  subst p1
  cases v with
  | true => exact ha rfl X fx F σ B1 H1 (hE.mono e1) O1 _ fun u B2 H2 e2 O2 p2 => hQ u B2 H2 (e1.trans e2) O2 p2
  | false => exact hb rfl X fx F σ B1 H1 (hE.mono e1) O1 _ fun u B2 H2 e2 O2 p2 => hQ u B2 H2 (e1.trans e2) O2 p2

/-! ### arguments, displays -/
theorem a_nil : DA c Γ ω [] [] ω := fun X fx F σ B H hE hO Q hQ => tA.of pa_nil (hQ [] B H (Ex.refl B) hO .nil)
theorem a_cons {ss : List Sh} (ha : DE c Γ ω e S ω1) (hr : DA c Γ ω1 es ss ω2) (hs : ∀ env, starEach (e :: es) env = (false, eval e env) :: starEach es env := by intro _; rfl) : DA c Γ ω (e :: es) (S :: ss) ω2 := by
  intro X fx F σ B H hE hO Q hQ
  refine tA.of (pa_cons pe_w pa_w (hs _)) ?_
  refine ha X fx F σ B H hE hO _ fun v B1 H1 e1 O1 p1 => ?_
  exact hr X fx F σ B1 H1 (hE.mono e1) O1 _ fun vs B2 H2 e2 O2 p2 => hQ _ B2 H2 (e1.trans e2) O2 (.cons (S.mono e2 p1) p2)
theorem d_tup {ss : List Sh} {x1} (h : DA c Γ ω es ss ω1) (hl : ss.length ≤ sizeLine := by show _ ≤ 16777216; simp) : DE c Γ ω (.Tuple es x1 pos) (U ss) ω1 := by
  intro X fx F σ B H hE hO Q hQ
  refine tW.of (pe_tup pa_w) ?_
  refine h X fx F σ B H hE hO _ fun vs B1 H1 e1 O1 p1 => ⟨by rw [p1.len]; exact hl, fun p hp => ?_⟩
  obtain ⟨O2, e2⟩ := O1.new (o := .tup vs) hp
  exact hQ _ _ _ (e1.trans e2) O2 ⟨p, vs, rfl, upd_same, p1.mp fun _ s q => s.mono e2 q⟩
/-- a new list of one kind -/
theorem d_lst {α : Type} {R : α → Sh} {xs : List α} (h : DA c Γ ω es (xs.map R) ω1) (hl : xs.length ≤ sizeLine := by show _ ≤ 16777216; simp) : DE c Γ ω (.List es pos) (L R xs) ω1 := by
  intro X fx F σ B H hE hO Q hQ
  refine tW.of (pe_lst pa_w) ?_
  refine h X fx F σ B H hE hO _ fun vs B1 H1 e1 O1 p1 => ⟨by rw [p1.len, List.length_map]; exact hl, fun p hp => ?_⟩
  obtain ⟨O2, e2⟩ := O1.new (o := .lst vs) hp
  exact hQ _ _ _ (e1.trans e2) O2 ⟨p, vs, rfl, upd_same, (All2.of_map p1).mp fun _ s q => (R s).mono e2 q⟩
end
end ZZ

set_option maxHeartbeats 2000000
/-! Z3: subscripts, slices, built-ins, calls of defs. -/
namespace ZZ
open PySem PySem.Spec PyProof.Rows L2
open Evl (Ex)
def Glo (sc : Scope) (x : Str) : Prop := sc.names.lookup x = some .globalImplicit
def rTupS (K : PySem.W.Frag) : List V → Hp → VK → Prop := fun xs H Q => ∃ p ys, xs = [.ref p] ∧ ((SqL K H p ys ∧ ∀ l, H l = none → Q (.ref l) (upd H l (.tup ys))) ∨ (SqT K H p ys ∧ Q (.ref p) H))

/-! ### places -/
theorem All2.atI {α β : Type} {R : α → β → Prop} {l : List α} {m : List β} {k : Int} {x : β} (h : All2 R l m) (e : L2.atI m k = some x) : ∃ v, L2.atI l k = some v ∧ R v x := by
  unfold L2.atI at e ⊢
  rw [h.len]
  cases q : ixN m.length k with
  | none => rw [q] at e; cases e
  | some j =>
    rw [q] at e
    exact h.get e
/-- xs[lo:hi] -/
def cut {α : Type} (xs : List α) (lo hi : Option Int) : List α := (xs.drop (HT.sIx xs.length 0 lo)).take (HT.sIx xs.length xs.length hi - HT.sIx xs.length 0 lo)
theorem All2.cut {β : Type} {R : V → β → Prop} {l : List V} {m : List β} (h : All2 R l m) (lo hi : Option Int) : All2 R (cutV l lo hi) (cut m lo hi) := by
  unfold cutV ZZ.cut
  rw [h.len]
  exact (h.drop _).take _
theorem cut_take {α : Type} {xs : List α} {k : Nat} : cut xs none (some (k : Int)) = xs.take k := by
  unfold cut
  rw [HT.sIx_none, HT.sIx_nat, Nat.sub_zero, List.drop_zero]
  by_cases h : k ≤ xs.length
  · rw [Nat.min_eq_left h]
  · rw [Nat.min_eq_right (by omega), List.take_of_length_le (Nat.le_refl _), List.take_of_length_le (by omega)]
theorem cut_drop {α : Type} {xs : List α} {k : Nat} : cut xs (some (k : Int)) none = xs.drop k := by
  unfold cut
  rw [HT.sIx_none, HT.sIx_nat]
  by_cases h : k ≤ xs.length
  · rw [Nat.min_eq_left h]
    exact List.take_of_length_le (by rw [List.length_drop]; exact Nat.le_refl _)
  · rw [Nat.min_eq_right (by omega), List.drop_of_length_le (Nat.le_refl _), List.drop_of_length_le (by omega), List.take_nil]
theorem cut_both {α : Type} {xs : List α} {j k : Nat} (h : j ≤ k) : cut xs (some (j : Int)) (some (k : Int)) = (xs.take k).drop j := by
  unfold cut
  rw [HT.sIx_nat, HT.sIx_nat, List.drop_take]
  by_cases h1 : k ≤ xs.length
  · rw [Nat.min_eq_left h1, Nat.min_eq_left (by omega)]
  · by_cases h2 : j ≤ xs.length
    · rw [Nat.min_eq_left h2, Nat.min_eq_right (by omega), List.take_of_length_le (by rw [List.length_drop]; omega), List.take_of_length_le (by rw [List.length_drop]; omega)]
    · rw [Nat.min_eq_right (by omega), Nat.min_eq_right (by omega), List.drop_of_length_le (Nat.le_refl _), List.drop_of_length_le (by omega), List.take_nil, List.take_nil]

inductive Hold : Ws → Addr → Co → Prop
  | z {ω l C} : Hold ((l, C) :: ω) l C
  | s {ω e l C} : Hold ω l C → Hold (e :: ω) l C
theorem Hold.mem {ω : Ws} {l : Addr} {C : Co} (h : Hold ω l C) : (l, C) ∈ ω := by
  induction h with
  | z => exact List.mem_cons_self
  | s _ ih => exact List.mem_cons_of_mem _ ih

section
variable {c : Cc} {Γ : En} {ω ω1 ω2 ω3 : Ws} {a b d e : Expr} {es : List Expr} {S SA SB T : Sh} {R R1 R2 : Bool → Prop} {pos p p2 : Pos} {x : Str} {α : Type} {Rs : α → Sh} {xs : List α} {bb : Bool} {k : Int} {y : α}

theorem sq_get {B H : Hp} {v : V} (h : (Sq bb Rs xs).p B v) (e : Ex B H) : ∃ a vs, v = .ref a ∧ H a = some (if bb then .lst vs else .tup vs) ∧ All2 (fun v x => (Rs x).p B v) vs xs :=
  let ⟨a, vs, h1, h2, h3⟩ := h; ⟨a, vs, h1, e a _ h2, h3⟩
/-! ### a[i] -/
theorem d_ix (ha : DE c Γ ω a (Sq bb Rs xs) ω1) (hb : DE c Γ ω1 b (I k) ω2) (h : L2.atI xs k = some y) (hs : PlainIx b := by exact fun _ _ => rfl) : DE c Γ ω (.Subscript a b pos) (Rs y) ω2 := by
  intro X fx F σ B H hE hO Q hQ
  have go : ∀ (r : L2.R2), IxR X r → (∀ v u B2 H2, (Sq bb Rs xs).p B2 v → u = V.int k → Ex B2 H2 → (∀ z, (Rs y).p B2 z → Q z H2) → r v u H2 Q) → tW X (.Subscript a b pos) σ H Q := fun r hr hh => by
    refine tW.of (pe_ix hr pe_w pe_w hs) ?_
    refine ha X fx F σ B H hE hO _ fun v B1 H1 e1 O1 p1 => ?_
    refine hb X fx F σ B1 H1 (hE.mono e1) O1 _ fun u B2 H2 e2 O2 p2 => ?_
    exact hh v u B2 H2 ((Sq bb Rs xs).mono e2 p1) p2 O2.ex fun z q => hQ z B2 H2 (e1.trans e2) O2 q
  cases bb with
  | true =>
    refine go _ ix_list fun v u B2 H2 p1 p2 e q => ?_
    obtain ⟨a', vs, rfl, h2, h3⟩ := sq_get p1 e
    obtain ⟨z, e1, e2⟩ := h3.atI h
    exact ⟨a', vs, k, z, rfl, p2, SqL.of h2, e1, q z e2⟩
  | false =>
    refine go _ ix_tup fun v u B2 H2 p1 p2 e q => ?_
    obtain ⟨a', vs, rfl, h2, h3⟩ := sq_get p1 e
    obtain ⟨z, e1, e2⟩ := h3.atI h
    exact ⟨a', vs, k, z, rfl, p2, SqT.of h2, e1, q z e2⟩
theorem d_ixU {ss : List Sh} (ha : DE c Γ ω a (U ss) ω1) (hb : DE c Γ ω1 b (I k) ω2) (h : L2.atI ss k = some S) (hs : PlainIx b := by exact fun _ _ => rfl) : DE c Γ ω (.Subscript a b pos) S ω2 := by
  intro X fx F σ B H hE hO Q hQ
  refine tW.of (pe_ix ix_tup pe_w pe_w hs) ?_
  refine ha X fx F σ B H hE hO _ fun v B1 H1 e1 O1 p1 => ?_
  refine hb X fx F σ B1 H1 (hE.mono e1) O1 _ fun u B2 H2 e2 O2 p2 => ?_
  obtain ⟨a', vs, rfl, h2, h3⟩ := (U ss).mono e2 p1
  obtain ⟨z, q1, q2⟩ := h3.atI h
  exact ⟨a', vs, k, z, rfl, p2, SqT.of (O2.ex _ _ h2), q1, hQ z B2 H2 (e1.trans e2) O2 q2⟩
/-- .. of a list that is owned -/
theorem d_ixO {l : Addr} (ha : DE c Γ ω a (At l) ω1) (hb : DE c Γ ω1 b (I k) ω2) (hm : Hold ω2 l (Cl Rs xs)) (h : L2.atI xs k = some y) (hs : PlainIx b := by exact fun _ _ => rfl) : DE c Γ ω (.Subscript a b pos) (Rs y) ω2 := by
  intro X fx F σ B H hE hO Q hQ
  refine tW.of (pe_ix ix_list pe_w pe_w hs) ?_
  refine ha X fx F σ B H hE hO _ fun v B1 H1 e1 O1 p1 => ?_
  refine hb X fx F σ B1 H1 (hE.mono e1) O1 _ fun u B2 H2 e2 O2 p2 => ?_
  obtain ⟨_, _, o, h2, vs, rfl, h3⟩ := O2.ow _ _ hm.mem
  obtain ⟨z, q1, q2⟩ := h3.atI h
  exact ⟨l, vs, k, z, p1, p2, SqL.of h2, q1, hQ z B2 H2 (e1.trans e2) O2 q2⟩

/-! ### slices -/
def DO (c : Cc) (Γ : En) (ω : Ws) (o : Option Expr) (v : Option Int) (ω' : Ws) : Prop :=
  match o, v with
  | none, none => ω' = ω
  | some e, some i => DE c Γ ω e (I i) ω'
  | _, _ => False
def tO (X : Cx) (o : Option Expr) : TO := match o with
  | none => tNoPart
  | some e => tPart (tW X e)
theorem po_w {X : Cx} : ∀ {o : Option Expr}, PO X o (tO X o)
  | none => po_none
  | some _ => po_some pe_w
theorem DO.run {o : Option Expr} {v : Option Int} (h : DO c Γ ω o v ω1) {X : Cx} (fx : Fits c (Γ.map (·.1)) X) {F : Hp} {σ : L2.St} {B H : Hp} (hE : EnvOk Γ σ B) (hO : Own F ω B H) {Q : Option Int → Hp → Prop} (hQ : ∀ B' H', Ex B B' → Own F ω1 B' H' → Q v H') : tO X o σ H Q := by
  cases o with
  | none =>
    cases v with
    | none => have h : ω1 = ω := h; subst h; exact hQ B H (Ex.refl B) hO
    | some i => exact False.elim h
  | some e =>
    cases v with
    | none => exact False.elim h
    | some i => exact DE.run_ h fx hE hO hQ
where
  DE.run_ {e : Expr} {i : Int} (h : DE c Γ ω e (I i) ω1) {X : Cx} (fx : Fits c (Γ.map (·.1)) X) {F : Hp} {σ : L2.St} {B H : Hp} (hE : EnvOk Γ σ B) (hO : Own F ω B H) {Q : Option Int → Hp → Prop} (hQ : ∀ B' H', Ex B B' → Own F ω1 B' H' → Q (some i) H') : tPart (tW X e) σ H Q :=
    h X fx F σ B H hE hO _ fun v B1 H1 e1 O1 p1 => ⟨i, p1, hQ B1 H1 e1 O1⟩
theorem o_none : DO c Γ ω none none ω := rfl
theorem o_some (h : DE c Γ ω e (I k) ω1) : DO c Γ ω (some e) (some k) ω1 := h
theorem d_sl {lo hi : Option Expr} {i j : Option Int} (ha : DE c Γ ω a (Sq bb Rs xs) ω1) (hl : DO c Γ ω1 lo i ω2) (hh : DO c Γ ω2 hi j ω3) : DE c Γ ω (.Subscript a (.Slice lo hi none p2) pos) (Sq bb Rs (cut xs i j)) ω3 := by
  intro X fx F σ B H hE hO Q hQ
  have go : ∀ (r : V → Option Int → Option Int → Hp → VK → Prop), SlR X r → (∀ v B2 H2, Ex B B2 → (Sq bb Rs xs).p B2 v → Own F ω3 B2 H2 → r v i j H2 Q) → tW X (.Subscript a (.Slice lo hi none p2) pos) σ H Q := fun r hr hh' => by
    refine tW.of (pe_slice hr pe_w po_w po_w) ?_
    refine ha X fx F σ B H hE hO _ fun v B1 H1 e1 O1 p1 => ?_
    refine hl.run fx (hE.mono e1) O1 fun B2 H2 e2 O2 => ?_
    refine hh.run fx (hE.mono (e1.trans e2)) O2 fun B3 H3 e3 O3 => ?_
    exact hh' v B3 H3 ((e1.trans e2).trans e3) ((Sq bb Rs xs).mono (e2.trans e3) p1) O3
  cases bb with
  | true =>
    refine go _ sl_list fun v B2 H2 e2 p1 O2 => ?_
    obtain ⟨a', vs, rfl, h2, h3⟩ := sq_get p1 O2.ex
    refine ⟨a', vs, rfl, SqL.of h2, fun q hq => ?_⟩
    obtain ⟨O4, e4⟩ := O2.new (o := .lst (cutV vs i j)) hq
    exact hQ _ _ _ (e2.trans e4) O4 ⟨q, _, rfl, upd_same, (h3.cut i j).mp fun _ s z => (Rs s).mono e4 z⟩
  | false =>
    refine go _ sl_tupA fun v B2 H2 e2 p1 O2 => ?_
    have p0 := p1
    obtain ⟨a', vs, rfl, h2, h3⟩ := sq_get p1 O2.ex
    refine ⟨a', vs, rfl, SqT.of h2, fun hw => ?_, fun _ q hq => ?_⟩
    · have hc : cut xs i j = xs := by
        unfold cut
        have hl := h3.len
        rw [← hl, hw.1, hw.2, List.drop_zero, Nat.sub_zero, hl, List.take_length]
      rw [hc] at hQ
      exact hQ _ _ _ e2 O2 p0
    · obtain ⟨O4, e4⟩ := O2.new (o := .tup (cutV vs i j)) hq
      exact hQ _ _ _ (e2.trans e4) O4 ⟨q, _, rfl, upd_same, (h3.cut i j).mp fun _ s z => (Rs s).mono e4 z⟩

/-! ### list + list -/
theorem d_cat {ys : List α} (ha : DE c Γ ω a (L Rs xs) ω1) (hb : DE c Γ ω1 b (L Rs ys) ω2) (hl : xs.length + ys.length ≤ sizeLine) : DE c Γ ω (.BinOp a .Add b pos) (L Rs (xs ++ ys)) ω2 :=
  d_bin (fun _ => op_cat) ha hb fun F ω B H v u h1 h2 O Q q => by
    obtain ⟨a1, vs, rfl, g1, g2⟩ := sq_get h1 O.ex
    obtain ⟨b1, us, rfl, k1, k2⟩ := sq_get h2 O.ex
    refine ⟨a1, b1, vs, us, rfl, rfl, g1, k1, by rw [g2.len, k2.len]; exact hl, fun p hp => ?_⟩
    obtain ⟨O4, e4⟩ := O.new (o := .lst (vs ++ us)) hp
    exact q _ _ _ e4 O4 ⟨p, _, rfl, upd_same, (g2.append k2).mp fun _ s z => (Rs s).mono e4 z⟩

/-! ### built-ins -/
theorem gl_of {X : Cx} {N : List Str} (fx : Fits c N X) (h : Glo c.sc x) : Gl X x := by
  show X.env.scope.names.lookup x = _
  rw [fx.sc]; exact h
theorem d_callB {id : String} {r : List V → Hp → VK → Prop} {ss : List Sh} (hc : ∀ X, Fits c (Γ.map (·.1)) X → CallR X (.builtin id) r) (hg : Glo c.sc x) (hm : c.M.mg x = none) (hv : bootBuiltins x = some (.builtin id))
    (ha : DA c Γ ω (e :: es) ss ω1) (hr : RC r ss S) (hn : x ≠ "__name__" := by decide) (hdb : (x == ("__debug__" : Str)) = false := by decide)
    (he : ∀ env, starEach (e :: es) env = (false, eval e env) :: starEach es env := by intro _; rfl) (hpl : ∀ env, (backTo pos (starEach es env)).any (·.1) = false := by intro _; rfl) : DE c Γ ω (.Call (.Name x p) (e :: es) [] pos) S ω1 := by
  intro X fx F σ B H hE hO Q hQ
  refine tW.of (pe_callB (hc X fx) (gl_of fx hg) (by rw [fx.mg]; exact hm) hv pa_w hn hdb (he _) (hpl _)) ?_
  refine ha X fx F σ B H hE hO _ fun vs B1 H1 e1 O1 p1 => ?_
  exact hr F ω1 B1 H1 vs p1 O1 Q fun z B' H' e3 O3 p3 => hQ z B' H' (e1.trans e3) O3 p3
theorem d_callTy {id : String} {r : List V → Hp → VK → Prop} {ss : List Sh} (hc : ∀ X, Fits c (Γ.map (·.1)) X → CallR X (.type id) r) (hg : Glo c.sc x) (hm : c.M.mg x = none) (hv : bootBuiltins x = some (.type id))
    (ha : DA c Γ ω (e :: es) ss ω1) (hr : RC r ss S) (hn : x ≠ "__name__" := by decide) (hdb : (x == ("__debug__" : Str)) = false := by decide)
    (he : ∀ env, starEach (e :: es) env = (false, eval e env) :: starEach es env := by intro _; rfl) (hpl : ∀ env, (backTo pos (starEach es env)).any (·.1) = false := by intro _; rfl) : DE c Γ ω (.Call (.Name x p) (e :: es) [] pos) S ω1 := by
  intro X fx F σ B H hE hO Q hQ
  refine tW.of (pe_callTy (hc X fx) (gl_of fx hg) (by rw [fx.mg]; exact hm) hv pa_w hn hdb (he _) (hpl _)) ?_
  refine ha X fx F σ B H hE hO _ fun vs B1 H1 e1 O1 p1 => ?_
  exact hr F ω1 B1 H1 vs p1 O1 Q fun z B' H' e3 O3 p3 => hQ z B' H' (e1.trans e3) O3 p3
theorem all1 {B : Hp} {vs : List V} {s : Sh} (h : All2 (fun v (s : Sh) => s.p B v) vs [s]) : ∃ v, vs = [v] ∧ s.p B v := by
  cases h with
  | cons h t => cases t; exact ⟨_, rfl, h⟩
theorem all2 {B : Hp} {vs : List V} {s t : Sh} (h : All2 (fun v (s : Sh) => s.p B v) vs [s, t]) : ∃ v u, vs = [v, u] ∧ s.p B v ∧ t.p B u := by
  cases h with
  | cons h t =>
    obtain ⟨u, rfl, q⟩ := all1 t
    exact ⟨_, u, rfl, h, q⟩
theorem rc1 {r : List V → Hp → VK → Prop} {s : Sh} (h : ∀ F ω B H v, s.p B v → Own F ω B H → ∀ Q : VK, (∀ z B' H', Ex B B' → Own F ω B' H' → S.p B' z → Q z H') → r [v] H Q) : RC r [s] S := fun F ω B H vs hv O Q q => by
  obtain ⟨v, rfl, h1⟩ := all1 hv
  exact h F ω B H v h1 O Q q
theorem rc2 {r : List V → Hp → VK → Prop} {s t : Sh} (h : ∀ F ω B H v u, s.p B v → t.p B u → Own F ω B H → ∀ Q : VK, (∀ z B' H', Ex B B' → Own F ω B' H' → S.p B' z → Q z H') → r [v, u] H Q) : RC r [s, t] S := fun F ω B H vs hv O Q q => by
  obtain ⟨v, u, rfl, h1, h2⟩ := all2 hv
  exact h F ω B H v u h1 h2 O Q q
theorem d_len (ha : DE c Γ ω a (Sq bb Rs xs) ω1) (hm : c.M.mg "len" = none) (hg : Glo c.sc "len" := by exact rfl) (he : ∀ env, starEach [a] env = (false, eval a env) :: starEach [] env := by intro _; rfl) : DE c Γ ω (.Call (.Name "len" p) [a] [] pos) (I (xs.length : Int)) ω1 :=
  d_callB (r := Evl.rLenS c.M.K) (fun X fx => by rw [← fx.K]; exact call_len_seq) hg hm PySem.boot_len (a_cons ha a_nil he) (rc1 fun F ω B H v hv O Q q => by
    obtain ⟨a1, vs, rfl, g1, g2⟩ := sq_get hv O.ex
    refine ⟨a1, vs, rfl, ?_, q _ B H (Ex.refl B) O (by show V.int _ = V.int _; rw [g2.len])⟩
    cases bb with
    | true => exact .inl (SqL.of g1)
    | false => exact .inr (SqT.of g1)) (he := he)
theorem d_lenO {l : Addr} (ha : DE c Γ ω a (At l) ω1) (hh : Hold ω1 l (Cl Rs xs)) (hm : c.M.mg "len" = none) (hg : Glo c.sc "len" := by exact rfl) (he : ∀ env, starEach [a] env = (false, eval a env) :: starEach [] env := by intro _; rfl) : DE c Γ ω (.Call (.Name "len" p) [a] [] pos) (I (xs.length : Int)) ω1 := by
  intro X fx F σ B H hE hO Q hQ
  refine tW.of (pe_callB call_len_seq (gl_of fx hg) (by rw [fx.mg]; exact hm) PySem.boot_len pa_w (he := he _)) ?_
  refine a_cons ha a_nil he X fx F σ B H hE hO _ fun vs B1 H1 e1 O1 p1 => ?_
  obtain ⟨v, rfl, hv⟩ := all1 p1
  obtain ⟨_, _, o, h2, us, rfl, h3⟩ := O1.ow _ _ hh.mem
  exact ⟨l, us, by rw [show v = V.ref l from hv], .inl (SqL.of h2), hQ _ B1 H1 e1 O1 (by show V.int _ = V.int _; rw [h3.len])⟩
theorem d_lenU {ss : List Sh} (ha : DE c Γ ω a (U ss) ω1) (hm : c.M.mg "len" = none) (hg : Glo c.sc "len" := by exact rfl) (he : ∀ env, starEach [a] env = (false, eval a env) :: starEach [] env := by intro _; rfl) : DE c Γ ω (.Call (.Name "len" p) [a] [] pos) (I (ss.length : Int)) ω1 :=
  d_callB (r := Evl.rLenS c.M.K) (fun X fx => by rw [← fx.K]; exact call_len_seq) hg hm PySem.boot_len (a_cons ha a_nil he) (rc1 fun F ω B H v hv O Q q => by
    obtain ⟨a1, vs, rfl, g1, g2⟩ := hv
    exact ⟨a1, vs, rfl, .inr (SqT.of (O.ex _ _ g1)), q _ B H (Ex.refl B) O (by show V.int _ = V.int _; rw [g2.len])⟩) (he := he)
section
variable {i j : Int}
theorem d_max2 [Cold c] (ha : DE c Γ ω a (I i) ω1) (hb : DE c Γ ω1 b (I j) ω2) (hm : c.M.mg "max" = none) (hg : Glo c.sc "max" := by exact rfl) (he : ∀ env, starEach [a, b] env = (false, eval a env) :: starEach [b] env := by intro _; rfl)
    (he2 : ∀ env, starEach [b] env = (false, eval b env) :: starEach [] env := by intro _; rfl) (hpl : ∀ env, (backTo pos (starEach [b] env)).any (·.1) = false := by intro _; rfl) : DE c Γ ω (.Call (.Name "max" p) [a, b] [] pos) (I (max i j)) ω2 :=
  d_callB (fun _ fx => call_max2 fx.calm) hg hm PyProof.Rows.boot_max (a_cons ha (a_cons hb a_nil he2) he) (rc2 fun F ω B H v u h1 h2 O Q q => by
    have h1 : v = .int i := h1
    have h2 : u = .int j := h2
    subst h1 h2
    refine ⟨i, j, rfl, q _ B H (Ex.refl B) O ?_⟩
    show V.int _ = V.int _
    congr 1
    split <;> omega) (he := he) (hpl := hpl)
theorem d_min2 [Cold c] (ha : DE c Γ ω a (I i) ω1) (hb : DE c Γ ω1 b (I j) ω2) (hm : c.M.mg "min" = none) (hg : Glo c.sc "min" := by exact rfl) (he : ∀ env, starEach [a, b] env = (false, eval a env) :: starEach [b] env := by intro _; rfl)
    (he2 : ∀ env, starEach [b] env = (false, eval b env) :: starEach [] env := by intro _; rfl) (hpl : ∀ env, (backTo pos (starEach [b] env)).any (·.1) = false := by intro _; rfl) : DE c Γ ω (.Call (.Name "min" p) [a, b] [] pos) (I (min i j)) ω2 :=
  d_callB (fun _ fx => call_min2 fx.calm) hg hm PyProof.Rows.boot_min (a_cons ha (a_cons hb a_nil he2) he) (rc2 fun F ω B H v u h1 h2 O Q q => by
    have h1 : v = .int i := h1
    have h2 : u = .int j := h2
    subst h1 h2
    refine ⟨i, j, rfl, q _ B H (Ex.refl B) O ?_⟩
    show V.int _ = V.int _
    congr 1
    split <;> omega) (he := he) (hpl := hpl)
theorem d_intI (ha : DE c Γ ω a (I i) ω1) (hm : c.M.mg "int" = none) (hg : Glo c.sc "int" := by exact rfl) (he : ∀ env, starEach [a] env = (false, eval a env) :: starEach [] env := by intro _; rfl) : DE c Γ ω (.Call (.Name "int" p) [a] [] pos) (I i) ω1 :=
  d_callTy (fun _ _ => call_int1) hg hm PyProof.Rows.boot_int (a_cons ha a_nil he) (rc1 fun F ω B H v hv O Q q => by
    have hv : v = .int i := hv
    subst hv
    exact .inl ⟨i, rfl, q _ B H (Ex.refl B) O rfl⟩) (he := he)
theorem d_intB {k : Bool} (ha : DE c Γ ω a (Bo k) ω1) (hm : c.M.mg "int" = none) (hg : Glo c.sc "int" := by exact rfl) (he : ∀ env, starEach [a] env = (false, eval a env) :: starEach [] env := by intro _; rfl) : DE c Γ ω (.Call (.Name "int" p) [a] [] pos) (I (if k then 1 else 0)) ω1 :=
  d_callTy (fun _ _ => call_int1) hg hm PyProof.Rows.boot_int (a_cons ha a_nil he) (rc1 fun F ω B H v hv O Q q => by
    have hv : v = .bl k := hv
    subst hv
    exact .inr ⟨k, rfl, q _ B H (Ex.refl B) O rfl⟩) (he := he)
end
theorem sq_ints {B : Hp} : ∀ {vs : List V} {ns : List Int}, All2 (fun v x => (I x).p B v) vs ns → vs = ns.map V.int
  | _, _, .nil => rfl
  | _, _, .cons h t => by
    have h : _ = V.int _ := h
    rw [h, sq_ints t]; rfl
theorem d_sum [Cold c] {ns : List Int} (ha : DE c Γ ω a (L I ns) ω1) (hm : c.M.mg "sum" = none) (hg : Glo c.sc "sum" := by exact rfl) (he : ∀ env, starEach [a] env = (false, eval a env) :: starEach [] env := by intro _; rfl) : DE c Γ ω (.Call (.Name "sum" p) [a] [] pos) (I ns.sum) ω1 :=
  d_callB (r := rSum c.M.K) (fun X fx => by rw [← fx.K]; exact cr_sum fx.calm) hg hm PyProof.Rows.boot_sum (a_cons ha a_nil he) (rc1 fun F ω B H v hv O Q q => by
    obtain ⟨a1, vs, rfl, g1, g2⟩ := sq_get hv O.ex
    have e := sq_ints g2
    subst e
    exact ⟨a1, ns, rfl, SqL.of g1, q _ B H (Ex.refl B) O rfl⟩) (he := he)
theorem d_list (ha : DE c Γ ω a (Sq bb Rs xs) ω1) (hm : c.M.mg "list" = none) (hg : Glo c.sc "list" := by exact rfl) (he : ∀ env, starEach [a] env = (false, eval a env) :: starEach [] env := by intro _; rfl) : DE c Γ ω (.Call (.Name "list" p) [a] [] pos) (L Rs xs) ω1 :=
  d_callTy (r := Evl.rListS c.M.K) (fun X fx => by rw [← fx.K]; exact call_list_of) hg hm PyProof.Rows.boot_list (a_cons ha a_nil he) (rc1 fun F ω B H v hv O Q q => by
    obtain ⟨a1, vs, rfl, g1, g2⟩ := sq_get hv O.ex
    refine ⟨a1, vs, rfl, ?_, fun l hl => ?_⟩
    · cases bb with
      | true => exact .inl (SqL.of g1)
      | false => exact .inr (SqT.of g1)
    · obtain ⟨O4, e4⟩ := O.new (o := .lst vs) hl
      exact q _ _ _ e4 O4 ⟨l, _, rfl, upd_same, g2.mp fun _ s z => (Rs s).mono e4 z⟩) (he := he)
theorem d_tuple (ha : DE c Γ ω a (Sq bb Rs xs) ω1) (hm : c.M.mg "tuple" = none) (hg : Glo c.sc "tuple" := by exact rfl) (he : ∀ env, starEach [a] env = (false, eval a env) :: starEach [] env := by intro _; rfl) : DE c Γ ω (.Call (.Name "tuple" p) [a] [] pos) (Sq false Rs xs) ω1 :=
  d_callTy (r := rTupS c.M.K) (fun X fx => by rw [← fx.K]; exact call_tuple_of) hg hm PyProof.Rows.boot_tuple (a_cons ha a_nil he) (rc1 fun F ω B H v hv O Q q => by
    have hv0 := hv
    obtain ⟨a1, vs, rfl, g1, g2⟩ := sq_get hv O.ex
    refine ⟨a1, vs, rfl, ?_⟩
    cases bb with
    | true =>
      refine .inl ⟨SqL.of g1, fun l hl => ?_⟩
      obtain ⟨O4, e4⟩ := O.new (o := .tup vs) hl
      exact q _ _ _ e4 O4 ⟨l, _, rfl, upd_same, g2.mp fun _ s z => (Rs s).mono e4 z⟩
    | false => exact .inr ⟨SqT.of g1, q _ B H (Ex.refl B) O hv0⟩) (he := he)
/-- isinstance(x, T), T a built-in type -/
def TyS (K : PySem.W.Frag) (S : Sh) (n : String) : Prop := ∀ B v, S.p B v → TyX K B v (.type n)
theorem tyx_mono {K : PySem.W.Frag} {B H : Hp} {v : V} {t : Value} (e : Ex B H) (h : TyX K B v t) : TyX K H v t := by
  cases h with
  | base b =>
    refine .base ?_
    cases b with
    | non => exact .non
    | bl x => exact .bl x
    | int i => exact .int i
    | str x => exact .str x
    | flt x => exact .flt x
    | lst q => exact .lst (e _ _ q)
    | frz q => exact .frz (e _ _ q)
    | tup q => exact .tup (e _ _ q)
    | dK q => exact .dK (e _ _ q)
    | dT q => exact .dT (e _ _ q)
    | ins q a b c d f => exact .ins (e _ _ q) a b c d f
  | byt b => exact .byt b
  | set q => exact .set (e _ _ q)
  | kList q c => exact .kList q c
  | kTuple q c => exact .kTuple q c
  | kDict q c => exact .kDict q c
  | fTuple q => exact .fTuple (e _ _ q)
  | fDict q => exact .fDict (e _ _ q)
theorem ty_int {K : PySem.W.Frag} {i : Int} : TyS K (I i) "int" := fun B v h => by
  have h : v = .int i := h
  rw [h]; exact .base (.int i)
theorem ty_bool {K : PySem.W.Frag} {i : Bool} : TyS K (Bo i) "bool" := fun B v h => by
  have h : v = .bl i := h
  rw [h]; exact .base (.bl i)
theorem ty_str {K : PySem.W.Frag} {i : Str} : TyS K (Tx i) "str" := fun B v h => by
  have h : v = .str i := h
  rw [h]; exact .base (.str i)
theorem ty_none {K : PySem.W.Frag} : TyS K No "NoneType" := fun B v h => by
  have h : v = .non := h
  rw [h]; exact .base .non
theorem ty_U {K : PySem.W.Frag} {ss : List Sh} : TyS K (U ss) "tuple" := fun B v h => by
  obtain ⟨a, vs, rfl, h2, _⟩ := h
  exact .base (.tup h2)
theorem ty_tup {K : PySem.W.Frag} : TyS K (Sq false Rs xs) "tuple" := fun B v h => by
  obtain ⟨a, vs, rfl, h2, _⟩ := h
  exact .base (.tup h2)
theorem ty_lst {K : PySem.W.Frag} : TyS K (Sq true Rs xs) "list" := fun B v h => by
  obtain ⟨a, vs, rfl, h2, _⟩ := h
  exact .base (.lst h2)
theorem d_isi {n m : String} {t : Str} {k : Bool} {pt : Pos} (ha : DE c Γ ω a SA ω1) (hS : ∀ K, TyS K SA n) (hk : kitB n m = some k) (hm : c.M.mg "isinstance" = none) (hmt : c.M.mg t = none) (hbt : bootBuiltins t = some (.type m)) (hg : Glo c.sc "isinstance" := by exact rfl)
    (hgt : Glo c.sc t := by exact rfl) (hn : t ≠ "__name__" := by decide) (hdb : (t == ("__debug__" : Str)) = false := by decide) (he : ∀ env, starEach [a, .Name t pt] env = (false, eval a env) :: starEach [.Name t pt] env := by intro _; rfl) : DE c Γ ω (.Call (.Name "isinstance" p) [a, .Name t pt] [] pos) (Bo k) ω1 := by
  refine d_callB (ss := [SA, Sc (.ty m)]) (r := fun vs H Q => rIsi c.M.K vs H Q) (fun X fx => by rw [← fx.K]; exact call_isi) hg hm PyProof.Rows.boot_isinstance (a_cons ha (a_cons ?_ a_nil) he) (rc2 fun F ω B H v u h1 h2 O Q q => ?_) (he := he)
  · intro X fx F σ B H hE hO Q hQ
    exact tW.of (pe_bltn (gl_of fx hgt) (by rw [fx.mg]; exact hmt) hbt (v := .ty m) rfl hn hdb) (hQ _ B H (Ex.refl B) hO rfl)
  · exact ⟨v, u, .type n, .type m, k, rfl, by rw [show u = V.ty m from h2]; exact .ty m, tyx_mono O.ex (hS _ B v h1), kit_ty hk, q _ B H (Ex.refl B) O rfl⟩
/-- x is True, x is False -/
def rIsT : L2.R2 := fun x y H Q => ∃ k, y = .bl k ∧ Q (.bl (decide (x = .bl k))) H
theorem op_isT {X : Cx} : OpR X (compareOp .Is) rIsT := by
  intro pins s σ H x y v u Q I rx ry h
  obtain ⟨k, rfl, q⟩ := h
  cases (show u = Value.bool k from ry)
  by_cases z : x = .bl k
  · subst z
    cases (show v = Value.bool k from rx)
    exact wpAny_is_self rfl ⟨.bl true, H, I, rfl, by simpa using q⟩
  · have hne : v ≠ Value.bool k := fun e => z (by
      have := rx.inj (y := .bl k) (by rw [e]; rfl)
      exact this)
    have hp : plainIs v (.bool k) = true := by
      cases x <;> first
        | (cases rx; rfl)
        | (obtain ⟨t, rfl⟩ := rx; rfl)
    exact wpAny_is_other hp hne ⟨.bl false, H, I, rfl, by simpa [z] using q⟩
def IsTB (S : Sh) (k r : Bool) : Prop := ∀ B v, S.p B v → decide (v = V.bl k) = r
theorem istb_sc {v : V} {k : Bool} : IsTB (Sc v) k (decide (v = .bl k)) := fun B u h => by
  have h : u = v := h
  rw [h]
theorem istb_seq {k : Bool} : IsTB (Sq bb Rs xs) k false := fun B u h => by
  obtain ⟨a, vs, rfl, _⟩ := h
  rfl
theorem istb_tup {ss : List Sh} {k : Bool} : IsTB (U ss) k false := fun B u h => by
  obtain ⟨a, vs, rfl, _⟩ := h
  rfl
theorem t_isT {k r : Bool} {j p'} (ha : DE c Γ ω a SA ω1) (h : IsTB SA k r) : DT c Γ ω (.Compare a [.Is] [.Constant (.bool k) j p'] pos) (· = r) ω1 :=
  t_cmp (fun _ _ => op_isT) ha d_bool (fun F ω B H v u h1 h2 O Q q => ⟨k, h2, q _ B H (Ex.refl B) O ⟨_, h _ _ h1, rfl⟩⟩) (nomark _)
theorem d_isT {k r : Bool} {j p'} (ha : DE c Γ ω a SA ω1) (h : IsTB SA k r) : DE c Γ ω (.Compare a [.Is] [.Constant (.bool k) j p'] pos) (Bo r) ω1 :=
  d_cmp (fun _ _ => op_isT) ha d_bool (fun F ω B H v u h1 h2 O Q q => ⟨k, h2, q _ B H (Ex.refl B) O (by show V.bl _ = V.bl _; rw [h _ _ h1])⟩) (nomark _)
/-- data == data -/
def IsD (S : Sh) (d : PyData) : Prop := ∀ K B v, S.p B v → Dp K B v d
theorem dp_mono {K : PySem.W.Frag} {B H : Hp} (e : Ex B H) : ∀ {v : V} {d : PyData}, Dp K B v d → Dp K H v d := by
  intro v d h
  exact Dp.rec (motive_1 := fun v d _ => Dp K H v d) (motive_2 := fun vs ds _ => DpAll K H vs ds) .non .bl .int .str (fun hs _ ih => .lst (Evl.ex_l e hs) ih) (fun hs _ ih => .tup (Evl.ex_t e hs) ih) .nil (fun _ _ h1 h2 => .cons h1 h2) h
theorem isd_int {i : Int} : IsD (I i) (.int i) := fun K B v h => by
  have h : v = .int i := h
  rw [h]; exact .int i
theorem isd_str {i : Str} : IsD (Tx i) (.str i) := fun K B v h => by
  have h : v = .str i := h
  rw [h]; exact .str i
theorem isd_bool {i : Bool} : IsD (Bo i) (.bool i) := fun K B v h => by
  have h : v = .bl i := h
  rw [h]; exact .bl i
theorem isd_none : IsD No .none := fun K B v h => by
  have h : v = .non := h
  rw [h]; exact .non
theorem isd_all {f : α → PyData} (hf : ∀ x, IsD (Rs x) (f x)) (K : PySem.W.Frag) (B : Hp) : ∀ {vs : List V} {xs : List α}, All2 (fun v x => (Rs x).p B v) vs xs → DpAll K B vs (xs.map f)
  | _, _, .nil => .nil
  | _, _, .cons h t => .cons (hf _ K B _ h) (isd_all hf K B t)
theorem isd_seq {f : α → PyData} (hf : ∀ x, IsD (Rs x) (f x)) : IsD (Sq bb Rs xs) (if bb then .list (xs.map f) else .tuple (xs.map f)) := fun K B v h => by
  obtain ⟨a, vs, rfl, h2, h3⟩ := h
  cases bb with
  | true => exact .lst (SqL.of h2) (isd_all hf K B h3)
  | false => exact .tup (SqT.of h2) (isd_all hf K B h3)
inductive IsDs : List Sh → List PyData → Prop
  | nil : IsDs [] []
  | cons {s d ss ds} : IsD s d → IsDs ss ds → IsDs (s :: ss) (d :: ds)
theorem IsDs.all (K : PySem.W.Frag) (B : Hp) : ∀ {ss : List Sh} {ds : List PyData} {vs : List V}, IsDs ss ds → All2 (fun v (s : Sh) => s.p B v) vs ss → DpAll K B vs ds
  | _, _, _, .nil, .nil => .nil
  | _, _, _, .cons h t, .cons q r => .cons (h K B _ q) (IsDs.all K B t r)
theorem isd_U {ss : List Sh} {ds : List PyData} (h : IsDs ss ds) : IsD (U ss) (.tuple ds) := fun K B v hv => by
  obtain ⟨a, vs, rfl, h2, h3⟩ := hv
  exact .tup (SqT.of h2) (h.all K B h3)
theorem d_eqD [Cold c] {d1 d2 : PyData} (ha : DE c Γ ω a SA ω1) (hb : DE c Γ ω1 b SB ω2) (h1 : IsD SA d1) (h2 : IsD SB d2) (s1 : SeqAt.shaped d1 = true) (s2 : SeqAt.shaped d2 = true) : DE c Γ ω (.Compare a [.Eq] [b] pos) (Bo (PyData.eqv d1 d2)) ω2 :=
  d_cmp (r := rEqD c.M.K) (fun X fx => by rw [← fx.K]; exact op_eqD fx.room.units) ha hb (fun F ω B H v u q1 q2 O Q q => ⟨d1, d2, dp_mono O.ex (h1 _ B v q1), dp_mono O.ex (h2 _ B u q2), s1, s2, q _ B H (Ex.refl B) O rfl⟩) (nomark _)

/-! ### calls of defs -/
/-- a def's contract -/
structure Ct (τ : Type) where
  As : τ → List Sh
  pre : τ → Prop := fun _ => True
  S : τ → Sh
  ω : τ → Ws := fun _ => []
  ω' : τ → Ws := fun _ => []
  ad : ∀ g, (ω' g).map (·.1) = (ω g).map (·.1) := by intro _; rfl
def Ct.sp {τ : Type} (t : Ct τ) : Sp := fun vs H Q _ => ∃ (g : τ) (F B : Hp), t.pre g ∧ All2 (fun v (s : Sh) => s.p B v) vs (t.As g) ∧ Own F (t.ω g) B H ∧ ∀ v B' H', Ex B B' → Own F (t.ω' g) B' H' → (t.S g).p B' v → Q v H'
/-- the def named x of the module keeps the contract -/
def Gd {τ : Type} (M : Mo) (k : Nat) (x : Str) (ps : List Str) (t : Ct τ) : Prop :=
  ∃ (f : Addr) (fd : FuncData), FnOk M.P M.w M.K M.mg M.base CX0 k f fd ps t.sp ∧ M.mg x = some (.ref f) ∧ PySem.W.keepIn M.K (.ref f) = true ∧ Binds M.K fd ps []
theorem d_call [Cold c] {τ : Type} {t : Ct τ} {k : Nat} {ps : List Str} {ss : List Sh} {rest : Ws} (g : τ) (G : Gd c.M k x ps t) (hk : k ≤ c.k) (ha : DA c Γ ω (e :: es) ss ω1) (hs : ss = t.As g) (hp : t.pre g) (hω : ω1 = t.ω g ++ rest)
    (hg : Glo c.sc x := by exact rfl) (hdb : (x == ("__debug__" : Str)) = false := by decide) (he : ∀ env, starEach (e :: es) env = (false, eval e env) :: starEach es env := by intro _; rfl) (hpl : ∀ env, (backTo pos (starEach es env)).any (·.1) = false := by intro _; rfl) :
    DE c Γ ω (.Call (.Name x p) (e :: es) [] pos) (t.S g) (t.ω' g ++ rest) := by
  obtain ⟨f, fd, hF, hm, hkp, hb⟩ := G
  intro X fx F σ B H hE hO Q hQ
  have hF' : FnOk X.prog X.w X.K X.mg X.base CX0 k f fd ps t.sp := by rw [fx.prog, fx.w, fx.K, fx.mg, fx.base]; exact hF
  refine tW.of (pe_call (ds := []) (dvs := []) (E := E0) hF' (fx.room.mono hk) (gl_of fx hg) (by rw [fx.mg]; exact hm) (by rw [fx.K]; exact hkp) (by rw [fx.K]; exact hb) .nil pass0 pa_w hdb (he _) (hpl _)) ?_
  refine ha X fx F σ B H hE hO _ fun vs B1 H1 e1 O1 p1 => ?_
  subst hs hω
  refine ⟨g, frame F rest H1, B1, hp, by rw [List.append_nil]; exact p1, O1.focus, fun v B' H' e2 O2 p2 => ?_⟩
  exact hQ v B' H' (e1.trans e2) (O1.unfocus e2 O2 (t.ad g)) p2
end
end ZZ

set_option maxHeartbeats 2000000
/-! Z4: statements, loops, a def by its body. -/
namespace ZZ
open PySem PySem.Spec PyProof.Rows L2
open Evl (Ex)

/-! ### new lists -/
def DN {α : Type} (c : Cc) (Γ : En) (ω : Ws) (e : Expr) (R : α → Sh) (xs : List α) (ω' : Ws) : Prop :=
  ∀ X, Fits c (Γ.map (·.1)) X → ∀ F σ B H, EnvOk Γ σ B → Own F ω B H → ∀ Q : VK, (∀ l B' H', Ex B B' → Own F (ω' ++ [(l, Cl R xs)]) B' H' → Q (.ref l) H') → tW X e σ H Q
theorem tak_last {ω : Ws} {l : Addr} {C : Co} : Tak (ω ++ [(l, C)]) l C ω := by
  induction ω with
  | nil => exact .z
  | cons e ω ih => exact .s ih
theorem DN.frz {α : Type} {c : Cc} {Γ : En} {ω ω' : Ws} {e : Expr} {R : α → Sh} {xs : List α} (h : DN c Γ ω e R xs ω') : DE c Γ ω e (L R xs) ω' := fun X fx F σ B H hE hO Q hQ =>
  h X fx F σ B H hE hO Q fun l B' H' e1 O1 => by
    obtain ⟨o, h1, ⟨vs, rfl, h3⟩, O2, e2⟩ := O1.freeze tak_last
    exact hQ _ _ _ (e1.trans e2) O2 ⟨l, vs, rfl, upd_same, h3.mp fun _ s q => (R s).mono e2 q⟩
section
variable {c : Cc} {Γ : En} {ω ω1 ω2 ω3 : Ws} {a b e : Expr} {es : List Expr} {α : Type} {Rs : α → Sh} {xs : List α} {pos p p2 : Pos} {bb : Bool}
theorem n_lst (h : DA c Γ ω es (xs.map Rs) ω1) (hl : xs.length ≤ sizeLine := by show _ ≤ 16777216; simp) : DN c Γ ω (.List es pos) Rs xs ω1 := by
  intro X fx F σ B H hE hO Q hQ
  refine tW.of (pe_lst pa_w) ?_
  refine h X fx F σ B H hE hO _ fun vs B1 H1 e1 O1 p1 => ⟨by rw [p1.len, List.length_map]; exact hl, fun p hp => ?_⟩
  exact hQ p _ _ e1 (O1.add hp (C := Cl Rs xs) ⟨vs, rfl, All2.of_map p1⟩)
theorem n_sl {lo hi : Option Expr} {i j : Option Int} (ha : DE c Γ ω a (L Rs xs) ω1) (hl : DO c Γ ω1 lo i ω2) (hh : DO c Γ ω2 hi j ω3) : DN c Γ ω (.Subscript a (.Slice lo hi none p2) pos) Rs (cut xs i j) ω3 := by
  intro X fx F σ B H hE hO Q hQ
  refine tW.of (pe_slice sl_list pe_w po_w po_w) ?_
  refine ha X fx F σ B H hE hO _ fun v B1 H1 e1 O1 p1 => ?_
  refine hl.run fx (hE.mono e1) O1 fun B2 H2 e2 O2 => ?_
  refine hh.run fx (hE.mono (e1.trans e2)) O2 fun B3 H3 e3 O3 => ?_
  obtain ⟨a', vs, rfl, h2, h3⟩ := sq_get ((L Rs xs).mono (e2.trans e3) p1) O3.ex
  exact ⟨a', vs, rfl, SqL.of h2, fun q hq => hQ q _ _ ((e1.trans e2).trans e3) (O3.add hq (C := Cl Rs (cut xs i j)) ⟨_, rfl, h3.cut i j⟩)⟩
theorem n_list (ha : DE c Γ ω a (Sq bb Rs xs) ω1) (hm : c.M.mg "list" = none) (hg : Glo c.sc "list" := by exact rfl) (he : ∀ env, starEach [a] env = (false, eval a env) :: starEach [] env := by intro _; rfl) : DN c Γ ω (.Call (.Name "list" p) [a] [] pos) Rs xs ω1 := by
  intro X fx F σ B H hE hO Q hQ
  refine tW.of (pe_callTy call_list_of (gl_of fx hg) (by rw [fx.mg]; exact hm) PyProof.Rows.boot_list pa_w (he := he _)) ?_
  refine a_cons ha a_nil he X fx F σ B H hE hO _ fun vs B1 H1 e1 O1 p1 => ?_
  obtain ⟨v, rfl, hv⟩ := all1 p1
  obtain ⟨a1, us, rfl, g1, g2⟩ := sq_get hv O1.ex
  refine ⟨a1, us, rfl, ?_, fun l hl => hQ l _ _ e1 (O1.add hl (C := Cl Rs xs) ⟨_, rfl, g2⟩)⟩
  cases bb with
  | true => exact .inl (SqL.of g1)
  | false => exact .inr (SqT.of g1)
theorem n_cat {ys : List α} (ha : DE c Γ ω a (L Rs xs) ω1) (hb : DE c Γ ω1 b (L Rs ys) ω2) (hl : xs.length + ys.length ≤ sizeLine) : DN c Γ ω (.BinOp a .Add b pos) Rs (xs ++ ys) ω2 := by
  intro X fx F σ B H hE hO Q hQ
  refine tW.of (pe_op op_cat pe_w pe_w) ?_
  refine ha X fx F σ B H hE hO _ fun v B1 H1 e1 O1 p1 => ?_
  refine hb X fx F σ B1 H1 (hE.mono e1) O1 _ fun u B2 H2 e2 O2 p2 => ?_
  obtain ⟨a1, vs, rfl, g1, g2⟩ := sq_get ((L Rs xs).mono e2 p1) O2.ex
  obtain ⟨b1, us, rfl, k1, k2⟩ := sq_get p2 O2.ex
  exact ⟨a1, b1, vs, us, rfl, rfl, g1, k1, by rw [g2.len, k2.len]; exact hl, fun p hp => hQ p _ _ (e1.trans e2) (O2.add hp (C := Cl Rs (xs ++ ys)) ⟨_, rfl, g2.append k2⟩)⟩
end

/-- one slot told anew -/
inductive Upg : En → Str → Sh → Sh → En → Prop
  | z {Γ x S T} : Upg ((x, some S) :: Γ) x S T ((x, some T) :: Γ)
  | s {Γ e x S T Γ'} : Upg Γ x S T Γ' → Upg (e :: Γ) x S T (e :: Γ')
theorem Upg.names : ∀ {Γ Γ' : En} {x : Str} {S T : Sh}, Upg Γ x S T Γ' → Γ'.map (·.1) = Γ.map (·.1)
  | _, _, _, _, _, .z => rfl
  | _, _, _, _, _, .s h => by simp [h.names]
theorem Upg.env : ∀ {Γ Γ' : En} {x : Str} {S T : Sh} {σ : L2.St} {B : Hp}, Upg Γ x S T Γ' → (∀ v, S.p B v → T.p B v) → EnvOk Γ σ B → EnvOk Γ' σ B
  | _, _, _, _, _, [], _, .z, _, h => h.elim
  | _, _, _, _, _, _ :: _, _, .z, f, h => ⟨let ⟨v, h1, h2⟩ := h.1; ⟨v, h1, f v h2⟩, h.2⟩
  | (_, none) :: _, _, _, _, _, [], _, .s _, _, h => h.elim
  | (_, some _) :: _, _, _, _, _, [], _, .s _, _, h => h.elim
  | (_, none) :: _, _, _, _, _, _ :: σ, _, .s q, f, h => q.env (σ := σ) f h
  | (_, some _) :: _, _, _, _, _, _ :: σ, _, .s q, f, h => ⟨h.1, q.env (σ := σ) f h.2⟩

/-! ### statements -/
def Lo (c : Cc) (x : Str) : Prop := c.sc.names.lookup x = some .local ∨ (c.cl = true ∧ c.sc.names.lookup x = some .cell)
theorem Fits.re {c : Cc} {N N' : List Str} {X : Cx} (fx : Fits c N X) (e : N' = N) : Fits c N' X := e ▸ fx
theorem Fits.lo {c : Cc} {N : List Str} {X : Cx} {x : Str} (fx : Fits c N X) (h : Lo c x) : Loc X.env.scope x ∧ (X.fn x = true ∨ X.env.scope.names.lookup x = some .local) := by
  rcases h with h | h
  · exact ⟨.inl (by rw [fx.sc]; exact h), .inr (by rw [fx.sc]; exact h)⟩
  · exact ⟨.inr (by rw [fx.sc]; exact h.2), .inl (fx.cell h.1 x h.2)⟩
def Rt (B0 F : Hp) (rt : VK) (S : Sh) (ω : Ws) : Prop := ∀ v B H, Ex B0 B → Own F ω B H → S.p B v → rt v H
theorem Rt.mono {B0 B1 F : Hp} {rt : VK} {S : Sh} {ω : Ws} (h : Rt B0 F rt S ω) (e : Ex B0 B1) : Rt B1 F rt S ω := fun v B H e1 O p => h v B H (e.trans e1) O p
section
variable {c : Cc} {X : Cx} {B0 F : Hp} {D : Ends} {Γ Γ1 Γ2 : En} {ω ω1 ω2 ω3 ωo : Ws} {S T : Sh} {R : Bool → Prop} {e o i t : Expr} {a b rest sts : List Stmt} {x : Str} {pos p p2 px : Pos} {α : Type} {Rs : α → Sh} {xs : List α} {y : α} {P : α → Prop} {l : Addr}
theorem ds_nil (h : ∀ σ B H, Ex B0 B → EnvOk Γ σ B → Own F ω B H → D.nx σ H) : DS c X B0 F D Γ ω [] := fun fx σ B H hB hE hO => tS.of pss_nil (h σ B H hB hE hO)
/-- a branch's end: on with what stands behind it -/
theorem ds_next (h : DS c X B0 F D Γ ω rest) : DS c X B0 F { D with nx := tS X rest D } Γ ω [] := fun fx σ B H hB hE hO => tS.of pss_nil (h fx σ B H hB hE hO)
theorem ds_fg (f : Fg Γ Γ1) (h : DS c X B0 F D Γ1 ω sts) : DS c X B0 F D Γ ω sts := fun fx σ B H hB hE hO => h (fx.re f.names) σ B H hB (f.env hE) hO
theorem ds_asg (he : DE c Γ ω e S ω1) (hp : Put Γ x (some S) Γ1) (k : DS c X B0 F D Γ1 ω1 rest) (hl : Lo c x := by first | exact Or.inl rfl | exact Or.inr ⟨rfl, rfl⟩)
    (hs : ∀ env, swapsWithSole [.Name x px] e pos.line env = pure false := by intro _; rfl) (hw : ∀ env, swappedStores [.Name x px] e env = pure none := by intro _; rfl) : DS c X B0 F D Γ ω (.Assign [.Name x px] e pos :: rest) := by
  intro fx σ B H hB hE hO
  obtain ⟨j, h1, h2⟩ := hp.set
  refine tS.cons (ps_asg pe_w (pg_name (i := j) (by rw [fx.ns]; exact fx.nd) (by rw [fx.ns]; exact h1) (fx.lo hl).1 (fx.lo hl).2) (hs _) (hw _) (by rfl)) ?_
  refine he X fx F σ B H hE hO _ fun v B1 H1 e1 O1 p1 => ?_
  exact k (fx.re hp.names) _ B1 H1 (hB.trans e1) (h2 _ _ _ (hE.mono e1) p1) O1
theorem ds_asgE {Γ0 : En} (he : DE c Γ ω e (Es P Rs) ω1) (hn : Put Γ x none Γ0) (k : ∀ y, P y → ∃ Γ1, Put Γ x (some (Rs y)) Γ1 ∧ DS c X B0 F D Γ1 ω1 rest) (hl : Lo c x := by first | exact Or.inl rfl | exact Or.inr ⟨rfl, rfl⟩)
    (hs : ∀ env, swapsWithSole [.Name x px] e pos.line env = pure false := by intro _; rfl) (hw : ∀ env, swappedStores [.Name x px] e env = pure none := by intro _; rfl) : DS c X B0 F D Γ ω (.Assign [.Name x px] e pos :: rest) := by
  intro fx σ B H hB hE hO
  obtain ⟨j, hj⟩ := hn.ix
  refine tS.cons (ps_asg pe_w (pg_name (i := j) (by rw [fx.ns]; exact fx.nd) (by rw [fx.ns]; exact hj) (fx.lo hl).1 (fx.lo hl).2) (hs _) (hw _) (by rfl)) ?_
  refine he X fx F σ B H hE hO _ fun v B1 H1 e1 O1 p1 => ?_
  obtain ⟨z, hz, p1⟩ := p1
  obtain ⟨Γ1, hp, k⟩ := k z hz
  obtain ⟨j', h1, h2⟩ := hp.set
  have e : j' = j := nodup_ix fx.nd h1 hj
  subst e
  exact k (fx.re hp.names) _ B1 H1 (hB.trans e1) (h2 _ _ _ (hE.mono e1) p1) O1
/-- a new list, owned -/
theorem ds_own {Γ0 : En} (he : DN c Γ ω e Rs xs ω1) (hn : Put Γ x none Γ0) (k : ∀ l, ∃ Γ1, Put Γ x (some (At l)) Γ1 ∧ DS c X B0 F D Γ1 (ω1 ++ [(l, Cl Rs xs)]) rest) (hl : Lo c x := by first | exact Or.inl rfl | exact Or.inr ⟨rfl, rfl⟩)
    (hs : ∀ env, swapsWithSole [.Name x px] e pos.line env = pure false := by intro _; rfl) (hw : ∀ env, swappedStores [.Name x px] e env = pure none := by intro _; rfl) : DS c X B0 F D Γ ω (.Assign [.Name x px] e pos :: rest) := by
  intro fx σ B H hB hE hO
  obtain ⟨j, hj⟩ := hn.ix
  refine tS.cons (ps_asg pe_w (pg_name (i := j) (by rw [fx.ns]; exact fx.nd) (by rw [fx.ns]; exact hj) (fx.lo hl).1 (fx.lo hl).2) (hs _) (hw _) (by rfl)) ?_
  refine he X fx F σ B H hE hO _ fun l B1 H1 e1 O1 => ?_
  obtain ⟨Γ1, hp, k⟩ := k l
  obtain ⟨j', h1, h2⟩ := hp.set
  have e : j' = j := nodup_ix fx.nd h1 hj
  subst e
  exact k (fx.re hp.names) _ B1 H1 (hB.trans e1) (h2 _ _ _ (hE.mono e1) rfl) O1
theorem ds_freeze (hu : Upg Γ x (At l) (L Rs xs) Γ1) (ht : Tak ω l (Cl Rs xs) ω1) (k : DS c X B0 F D Γ1 ω1 sts) : DS c X B0 F D Γ ω sts := by
  intro fx σ B H hB hE hO
  obtain ⟨o, h1, ⟨vs, rfl, h3⟩, O2, e2⟩ := hO.freeze ht
  refine k (fx.re hu.names) σ _ H (hB.trans e2) (hu.env (fun v hv => ?_) (hE.mono e2)) O2
  exact ⟨l, vs, hv, upd_same, h3.mp fun _ s q => (Rs s).mono e2 q⟩
theorem ds_wide (hu : Upg Γ x S T Γ1) (hw : Sle S T) (k : DS c X B0 F D Γ1 ω sts) : DS c X B0 F D Γ ω sts := fun fx σ B H hB hE hO => k (fx.re hu.names) σ B H hB (hu.env (fun v hv => hw B v hv) hE) hO
theorem ds_if (ht : DT c Γ ω t R ω1) (ha : R true → DS c X B0 F { D with nx := tS X rest D } Γ ω1 a) (hb : R false → DS c X B0 F { D with nx := tS X rest D } Γ ω1 b) : DS c X B0 F D Γ ω (.If t a b pos :: rest) := by
  intro fx σ B H hB hE hO
  refine tS.cons (ps_if pt_w pss_w pss_w) ?_
  refine ht X fx F σ B H hE hO _ fun v B1 H1 e1 O1 p1 => ?_
  cases v with
  | true =>
    rw [if_pos rfl]
    exact ha p1 fx σ B1 H1 (hB.trans e1) (hE.mono e1) O1
  | false =>
    rw [if_neg Bool.false_ne_true]
    exact hb p1 fx σ B1 H1 (hB.trans e1) (hE.mono e1) O1
theorem ds_ret (hR : Rt B0 F D.rt T ωo) (he : DE c Γ ω e S (ωo ++ ω1)) (w : Sle S T) : DS c X B0 F D Γ ω (.Return (some e) pos :: rest) := by
  intro fx σ B H hB hE hO
  refine tS.cons (ps_ret pe_w) ?_
  refine he X fx F σ B H hE hO _ fun v B1 H1 e1 O1 p1 => ?_
  obtain ⟨B2, e2, O2⟩ := Own.drop (ω := ωo) (ω2 := ω1) O1
  exact hR v B2 H1 ((hB.trans e1).trans e2) O2 (T.mono e2 (w _ _ p1))
theorem ds_expr (he : DE c Γ ω e S ω1) (k : DS c X B0 F D Γ ω1 rest) (hs : ∀ env, swapsWith e none pos.line env = pure false := by intro _; rfl) : DS c X B0 F D Γ ω (.Expr e pos :: rest) := by
  intro fx σ B H hB hE hO
  refine tS.cons (ps_expr pe_w (hs _)) ?_
  exact he X fx F σ B H hE hO _ fun v B1 H1 e1 O1 p1 => k fx σ B1 H1 (hB.trans e1) (hE.mono e1) O1
theorem ds_pass (k : DS c X B0 F D Γ ω rest) : DS c X B0 F D Γ ω (.Pass pos :: rest) := fun fx σ B H hB hE hO => tS.cons ps_pass (k fx σ B H hB hE hO)
theorem ds_doc {j p'} {z : Str} (k : DS c X B0 F D Γ ω rest) : DS c X B0 F D Γ ω (.Expr (.Constant (.str z) j p') pos :: rest) := fun fx σ B H hB hE hO => tS.cons ps_doc (k fx σ B H hB hE hO)
theorem ds_brk (h : ∀ σ B H, Ex B0 B → EnvOk Γ σ B → Own F ω B H → D.bk σ H) : DS c X B0 F D Γ ω (.Break pos :: rest) := fun fx σ B H hB hE hO => tS.cons ps_break (h σ B H hB hE hO)
theorem ds_cont (h : ∀ σ B H, Ex B0 B → EnvOk Γ σ B → Own F ω B H → D.ct σ H) : DS c X B0 F D Γ ω (.Continue pos :: rest) := fun fx σ B H hB hE hO => tS.cons ps_continue (h σ B H hB hE hO)
/-- xs.append(e) -/
theorem ds_app {apos cpos : Pos} (ho : DE c Γ ω o (At l) ω) (he : DE c Γ ω e (Rs y) ω1) (hm : Hold ω l (Cl Rs xs)) (hs : Swp ω1 l (Cl Rs xs) (Cl Rs (xs ++ [y])) ω2) (hl : xs.length < sizeLine) (k : DS c X B0 F D Γ ω2 rest)
    (hbase : ∀ env, attributeBase o "append" env (eval o env) = eval o env := by intro _; rfl)
    (hfew : ∀ env, ((backTo cpos (starEach [e] env)).all (fun x => !x.1) && (backToKw cpos (keywordEach [] env)).all (fun x => x.1.isSome) && decide ([e].length + ([] : List Keyword).length + (if ([] : List Keyword).isEmpty then 0 else 1) < 30)) = true := by intro _; rfl)
    (hline : (apos.endLine == cpos.line) = true := by rfl) (hst : ∀ env, starEach [e] env = (false, eval e env) :: starEach [] env := by intro _; rfl) (hsw : ∀ env, swapsWith (.Call (.Attribute o "append" apos) [e] [] cpos) none pos.line env = pure false := by intro _; rfl) :
    DS c X B0 F D Γ ω (.Expr (.Call (.Attribute o "append" apos) [e] [] cpos) pos :: rest) := by
  intro fx σ B H hB hE hO
  refine tS.cons (ps_expr (pe_bm PySem.F.plainAttrs_list PySem.F.slot_list_append PySem.F.type_list_append mt_append pe_w (pa_cons pe_w pa_nil (hst _)) (hbase _) (hfew _) hline (hst _) rfl) (hsw _)) ?_
  refine ho X fx F σ B H hE hO _ fun v B1 H1 e1 O1 p1 => ?_
  have p1 : v = .ref l := p1
  subst p1
  refine ⟨?_, ?_⟩
  · obtain ⟨_, _, o', h2, us, rfl, h3⟩ := O1.ow _ _ hm.mem
    exact .inl ⟨rfl, us, SqL.of h2⟩
  · refine he X fx F σ B1 H1 (hE.mono e1) O1 _ fun u B2 H2 e2 O2 p2 => ?_
    obtain ⟨_, _, o', h2, us, rfl, h3⟩ := O2.ow _ _ hs.mem
    refine ⟨l, us, u, rfl, rfl, h2, by rw [h3.len]; exact hl, ?_⟩
    exact k fx σ B2 _ ((hB.trans e1).trans e2) (hE.mono (e1.trans e2)) (O2.swp hs ⟨_, rfl, h3.append (.cons p2 .nil)⟩)
theorem ds_appE {apos cpos : Pos} (ho : DE c Γ ω o (At l) ω) (he : DE c Γ ω e (Es P Rs) ω1) (hm : Hold ω l (Cl Rs xs)) (hm1 : Hold ω1 l (Cl Rs xs)) (hl : xs.length < sizeLine) (k : ∀ y, P y → ∃ ω2, Swp ω1 l (Cl Rs xs) (Cl Rs (xs ++ [y])) ω2 ∧ DS c X B0 F D Γ ω2 rest)
    (hbase : ∀ env, attributeBase o "append" env (eval o env) = eval o env := by intro _; rfl)
    (hfew : ∀ env, ((backTo cpos (starEach [e] env)).all (fun x => !x.1) && (backToKw cpos (keywordEach [] env)).all (fun x => x.1.isSome) && decide ([e].length + ([] : List Keyword).length + (if ([] : List Keyword).isEmpty then 0 else 1) < 30)) = true := by intro _; rfl)
    (hline : (apos.endLine == cpos.line) = true := by rfl) (hst : ∀ env, starEach [e] env = (false, eval e env) :: starEach [] env := by intro _; rfl) (hsw : ∀ env, swapsWith (.Call (.Attribute o "append" apos) [e] [] cpos) none pos.line env = pure false := by intro _; rfl) :
    DS c X B0 F D Γ ω (.Expr (.Call (.Attribute o "append" apos) [e] [] cpos) pos :: rest) := by
  intro fx σ B H hB hE hO
  refine tS.cons (ps_expr (pe_bm PySem.F.plainAttrs_list PySem.F.slot_list_append PySem.F.type_list_append mt_append pe_w (pa_cons pe_w pa_nil (hst _)) (hbase _) (hfew _) hline (hst _) rfl) (hsw _)) ?_
  refine ho X fx F σ B H hE hO _ fun v B1 H1 e1 O1 p1 => ?_
  have p1 : v = .ref l := p1
  subst p1
  refine ⟨?_, ?_⟩
  · obtain ⟨_, _, o', h2, us, rfl, h3⟩ := O1.ow _ _ hm.mem
    exact .inl ⟨rfl, us, SqL.of h2⟩
  · refine he X fx F σ B1 H1 (hE.mono e1) O1 _ fun u B2 H2 e2 O2 p2 => ?_
    obtain ⟨z, hz, p2⟩ := p2
    obtain ⟨ω2, hs, k⟩ := k z hz
    obtain ⟨_, _, o', h2, us, rfl, h3⟩ := O2.ow _ _ hs.mem
    refine ⟨l, us, u, rfl, rfl, h2, by rw [h3.len]; exact hl, ?_⟩
    exact k fx σ B2 _ ((hB.trans e1).trans e2) (hE.mono (e1.trans e2)) (O2.swp hs ⟨_, rfl, h3.append (.cons p2 .nil)⟩)
/-- xs[i] = e of an owned list -/
theorem ds_seti {kk : Int} {j : Nat} (he : DE c Γ ω e (Rs y) ω1) (ho : DE c Γ ω1 o (At l) ω2) (hi : DE c Γ ω2 i (I kk) ω3) (hj : ixN xs.length kk = some j) (hs : Swp ω3 l (Cl Rs xs) (Cl Rs (xs.set j y)) ωo) (k : DS c X B0 F D Γ ωo rest)
    (hss : ∀ env, swapsWithSole [.Subscript o i p] e pos.line env = pure false := by intro _; rfl) (hw : ∀ env, swappedStores [.Subscript o i p] e env = pure none := by intro _; rfl)
    (ha : ∀ env v, assign (.Subscript o i p) env v = (do
      let ov ← holding [v] (eval o env)
      let iv ← holding [v, ov] (eval i env)
      standAt p
      holding [v, ov, iv] (setItem ov iv v)
      release [v, ov, iv] []) := by intro _ _; rfl) : DS c X B0 F D Γ ω (.Assign [.Subscript o i p] e pos :: rest) := by
  intro fx σ B H hB hE hO
  refine tS.cons (ps_asg pe_w (pg_sub pe_w pe_w set_list (ha _)) (hss _) (hw _) (by rfl)) ?_
  refine he X fx F σ B H hE hO _ fun v B1 H1 e1 O1 p1 => ?_
  refine ho X fx F σ B1 H1 (hE.mono e1) O1 _ fun v2 B2 H2 e2 O2 p2 => ?_
  refine hi X fx F σ B2 H2 (hE.mono (e1.trans e2)) O2 _ fun v3 B3 H3 e3 O3 p3 => ?_
  obtain ⟨_, _, o', h2, us, rfl, h3⟩ := O3.ow _ _ hs.mem
  refine ⟨l, us, kk, j, p2, p3, h2, by rw [h3.len]; exact hj, ?_⟩
  exact k fx σ B3 _ (((hB.trans e1).trans e2).trans e3) (hE.mono ((e1.trans e2).trans e3)) (O3.swp hs ⟨_, rfl, All2.set (R := fun v x => (Rs x).p B3 v) ((Rs y).mono (e2.trans e3) p1) j h3⟩)
/-- a, b = e1, e2 -/
theorem ds_par [Cold c] {e1 e2 : Expr} {z : Str} {S1 S2 : Sh} {p1 p2' pt : Pos} {kt k2 pt2} (ha : DA c Γ ω [e1, e2] [S1, S2] ω1) (hp : Put Γ x (some S1) Γ1) (hq : Put Γ1 z (some S2) Γ2) (k : DS c X B0 F D Γ2 ω1 rest) (hne : x ≠ z := by decide)
    (hx : c.sc.names.lookup x = some .local := by exact rfl) (hz : c.sc.names.lookup z = some .local := by exact rfl)
    (hw : ∀ env : Env, env.scope = c.sc → swappedStores [.Tuple [.Name x p1, .Name z p2'] kt pt] (.Tuple [e1, e2] k2 pt2) env = pure (some [x, z]) := by (intro env h; cases env; cases h; rfl))
    (hs : ∀ env, swapsWithSole [.Tuple [.Name x p1, .Name z p2'] kt pt] (.Tuple [e1, e2] k2 pt2) pos.line env = pure false := by intro _; rfl) :
    DS c X B0 F D Γ ω (.Assign [.Tuple [.Name x p1, .Name z p2'] kt pt] (.Tuple [e1, e2] k2 pt2) pos :: rest) := by
  intro fx σ B H hB hE hO
  obtain ⟨j, h1, h2⟩ := hp.set
  obtain ⟨j2, h3, h4⟩ := hq.set
  rw [hp.names] at h3
  have hij : j ≠ j2 := by
    rintro rfl
    rw [h1] at h3
    exact hne (Option.some.inj h3)
  refine tS.cons (ps_par (i := j) (j := j2) fx.calm (by rw [fx.ns]; exact fx.nd) (by rw [fx.ns]; exact h1) (by rw [fx.ns]; exact h3) hij (by rw [fx.sc]; exact hx) (by rw [fx.sc]; exact hz) pa_w (hw _ fx.sc) (hs _)) ?_
  refine ha X fx F σ B H hE hO _ fun vs B1 H1 e1 O1 q1 => ?_
  obtain ⟨v, u, rfl, q1, q2⟩ := all2 q1
  exact ⟨v, u, rfl, k (fx.re (hq.names.trans hp.names)) _ B1 H1 (hB.trans e1) (h4 _ _ _ (h2 _ _ _ (hE.mono e1) q1) q2) O1⟩
end

/-! ### what is walked -/
def ItS {β : Type} (J : It) (n : Nat) (W : Nat → β → Prop) (Rb : β → Sh) (B1 : Hp) : Prop := ∀ B2 H2, Ex B1 B2 → Ex B2 H2 → (∀ i, i < n → J.go i H2) ∧ J.stop n H2 ∧
  ∀ i, i < n → ∀ x H3, J.yld i H2 x H3 → ∃ y, W i y ∧ ((H3 = H2 ∧ (Rb y).p B2 x) ∨ ∃ T o, H2 T = none ∧ H3 = upd H2 T o ∧ (B2 T = none → (Rb y).p (upd B2 T o) x))
def tI (X : Cx) (tg it : Expr) : TI := fun σ H R => ∀ pins s, Inv X pins σ H s → wpAny (model X.prog X.w) X.A (eval it X.env) (fun v s1 => wpAny (model X.prog X.w) X.A (pyIter v) (PIE X pins σ tg R) X.xe s1) X.xe s
theorem pi_w {X : Cx} {tg it : Expr} : PI X tg it (tI X tg it) := ⟨fun pins s _ _ _ I h => h pins s I⟩
theorem tI.of {X : Cx} {tg it : Expr} {wi : TI} {σ : L2.St} {H : Hp} {R : It → Hp → Prop} (h : PI X tg it wi) (q : wi σ H R) : tI X tg it σ H R := fun pins s I => h.run pins s σ H R I q
def DI {β : Type} (c : Cc) (Γ : En) (ω : Ws) (tg it : Expr) (n : Nat) (W : Nat → β → Prop) (Rb : β → Sh) (ω' : Ws) : Prop :=
  ∀ X, Fits c (Γ.map (·.1)) X → ∀ F σ B H, EnvOk Γ σ B → Own F ω B H → ∀ R : It → Hp → Prop, (∀ J B' H', Ex B B' → Own F ω' B' H' → ItS J n W Rb B' → R J H') → tI X tg it σ H R
section
variable {c : Cc} {Γ : En} {ω ω1 ω2 : Ws} {tg it a b d : Expr} {α β : Type} {Rs : α → Sh} {xs : List α} {bb : Bool} {pos p : Pos} {i j k : Int}
theorem i_seq (h : DE c Γ ω it (Sq bb Rs xs) ω1) : DI c Γ ω tg it xs.length (fun i y => xs[i]? = some y) Rs ω1 := by
  intro X fx F σ B H hE hO R hR
  cases bb with
  | true =>
    refine tI.of (pi_list pe_w) ?_
    refine h X fx F σ B H hE hO _ fun v B1 H1 e1 O1 p1 => ?_
    obtain ⟨a1, vs, rfl, g0, g2⟩ := p1
    refine ⟨a1, rfl, ⟨vs, SqL.of (O1.ex _ _ g0)⟩, hR _ B1 H1 e1 O1 fun B2 H2 e2 e3 => ?_⟩
    have w := walk_list (K := X.K) (a := a1) (xs := vs)
    have G : SqL X.K H2 a1 vs := SqL.of (e3 _ _ (e2 _ _ g0))
    rw [← g2.len]
    refine ⟨fun i hi => w.goes i H2 hi G, w.stops H2 G, fun i hi x H3 y => ?_⟩
    obtain ⟨rfl, q⟩ := w.yields i H2 x H3 hi G y
    obtain ⟨z, q1, q2⟩ := g2.get' q
    exact ⟨z, q1, .inl ⟨rfl, (Rs z).mono e2 q2⟩⟩
  | false =>
    refine tI.of (pi_tup pe_w) ?_
    refine h X fx F σ B H hE hO _ fun v B1 H1 e1 O1 p1 => ?_
    obtain ⟨a1, vs, rfl, g0, g2⟩ := p1
    refine ⟨a1, rfl, ⟨vs, SqT.of (O1.ex _ _ g0)⟩, hR _ B1 H1 e1 O1 fun B2 H2 e2 e3 => ?_⟩
    have w := walk_tup (K := X.K) (a := a1) (xs := vs)
    have G : SqT X.K H2 a1 vs := SqT.of (e3 _ _ (e2 _ _ g0))
    rw [← g2.len]
    refine ⟨fun i hi => w.goes i H2 hi G, w.stops H2 G, fun i hi x H3 y => ?_⟩
    obtain ⟨rfl, q⟩ := w.yields i H2 x H3 hi G y
    obtain ⟨z, q1, q2⟩ := g2.get' q
    exact ⟨z, q1, .inl ⟨rfl, (Rs z).mono e2 q2⟩⟩
theorem i_rng1 (ha : DE c Γ ω a (I j) ω1) (hm : c.M.mg "range" = none) (hj : j < 2 ^ 62 := by omega) (hj' : -(2 ^ 62) ≤ j := by omega) (hg : Glo c.sc "range" := by exact rfl) (he : ∀ env, starEach [a] env = [(false, eval a env)] := by intro _; rfl) :
    DI c Γ ω tg (.Call (.Name "range" p) [a] [] pos) j.toNat (fun i y => y = (i : Int)) I ω1 := by
  intro X fx F σ B H hE hO R hR
  refine tI.of (pi_range1 (gl_of fx hg) (by rw [fx.mg]; exact hm) pa_w (he _)) ?_
  refine a_cons ha a_nil (by intro env; rw [he]; rfl) X fx F σ B H hE hO _ fun vs B1 H1 e1 O1 p1 => ?_
  obtain ⟨v, rfl, hv⟩ := all1 p1
  refine ⟨j, by rw [show v = V.int j from hv], hj', hj, hR _ B1 H1 e1 O1 fun B2 H2 e2 e3 => ?_⟩
  refine ⟨fun i hi => hi, Nat.le_refl _, fun i hi x H3 y => ?_⟩
  obtain ⟨rfl, q⟩ := y
  exact ⟨(i : Int), rfl, .inl ⟨rfl, by rw [q, Int.zero_add]; rfl⟩⟩
theorem i_rng2 (ha : DE c Γ ω a (I i) ω1) (hb : DE c Γ ω1 b (I j) ω2) (hm : c.M.mg "range" = none) (hB : -(2 ^ 62) ≤ i ∧ i < 2 ^ 62 ∧ -(2 ^ 62) ≤ j ∧ j < 2 ^ 62 := by omega) (hg : Glo c.sc "range" := by exact rfl) (he : ∀ env, starEach [a, b] env = [(false, eval a env), (false, eval b env)] := by intro _; rfl)
    (he2 : ∀ env, starEach [b] env = [(false, eval b env)] := by intro _; rfl) : DI c Γ ω tg (.Call (.Name "range" p) [a, b] [] pos) (j - i).toNat (fun k y => y = i + (k : Int)) I ω2 := by
  intro X fx F σ B H hE hO R hR
  refine tI.of (pi_range2 (gl_of fx hg) (by rw [fx.mg]; exact hm) pa_w (he _) (he2 _)) ?_
  refine a_cons ha (a_cons hb a_nil (by intro env; rw [he2]; rfl)) (by intro env; rw [he, he2]) X fx F σ B H hE hO _ fun vs B1 H1 e1 O1 p1 => ?_
  obtain ⟨v, u, rfl, hv, hu⟩ := all2 p1
  refine ⟨i, j, by rw [show v = V.int i from hv, show u = V.int j from hu], hB, hR _ B1 H1 e1 O1 fun B2 H2 e2 e3 => ?_⟩
  refine ⟨fun i hi => hi, Nat.le_refl _, fun i hi x H3 y => ?_⟩
  obtain ⟨rfl, q⟩ := y
  exact ⟨_, rfl, .inl ⟨rfl, q⟩⟩
theorem all3 {B : Hp} {vs : List V} {s t r : Sh} (h : All2 (fun v (s : Sh) => s.p B v) vs [s, t, r]) : ∃ v u z, vs = [v, u, z] ∧ s.p B v ∧ t.p B u ∧ r.p B z := by
  cases h with
  | cons h t =>
    obtain ⟨u, z, rfl, q1, q2⟩ := all2 t
    exact ⟨_, u, z, rfl, h, q1, q2⟩
/-- range(i, j, -1) -/
theorem i_rngD (ha : DE c Γ ω a (I i) ω1) (hb : DE c Γ ω1 b (I j) ω2) (hd : DE c Γ ω2 d (I (-1)) ω2) (hm : c.M.mg "range" = none) (hB : -(2 ^ 62) ≤ i ∧ i < 2 ^ 62 ∧ -(2 ^ 62) ≤ j ∧ j < 2 ^ 62 := by omega) (hg : Glo c.sc "range" := by exact rfl)
    (he : ∀ env, starEach [a, b, d] env = (false, eval a env) :: starEach [b, d] env := by intro _; rfl) (he2 : ∀ env, starEach [b, d] env = (false, eval b env) :: starEach [d] env := by intro _; rfl) (he3 : ∀ env, starEach [d] env = (false, eval d env) :: starEach [] env := by intro _; rfl)
    (hpl : ∀ env, (backTo pos (starEach [b, d] env)).any (·.1) = false := by intro _; rfl) : DI c Γ ω tg (.Call (.Name "range" p) [a, b, d] [] pos) (i - j).toNat (fun k y => y = i - (k : Int)) I ω2 := by
  intro X fx F σ B H hE hO R hR
  refine tI.of (pi_range3 (gl_of fx hg) (by rw [fx.mg]; exact hm) pa_w (he _) (hpl _)) ?_
  refine a_cons ha (a_cons hb (a_cons hd a_nil he3) he2) he X fx F σ B H hE hO _ fun vs B1 H1 e1 O1 p1 => ?_
  obtain ⟨v, u, z, rfl, hv, hu, hz⟩ := all3 p1
  refine ⟨i, j, -1, (i - j).toNat, by rw [show v = V.int i from hv, show u = V.int j from hu, show z = V.int (-1) from hz], RgC.neg hB.1 hB.2.1 hB.2.2.1 hB.2.2.2, hR _ B1 H1 e1 O1 fun B2 H2 e2 e3 => ?_⟩
  refine ⟨fun i hi => hi, Nat.le_refl _, fun k hi x H3 y => ?_⟩
  obtain ⟨rfl, q⟩ := y
  exact ⟨_, rfl, .inl ⟨rfl, by rw [q]; show V.int _ = V.int _; congr 1; omega⟩⟩
end

/-! ### targets -/
def tG (X : Cx) (tg : Expr) : TG := fun v σ H Q => ∀ pins s u, Inv X pins σ H s → RelV v u → wpAny (model X.prog X.w) X.A (assign tg X.env u) (fun _ s' => ∃ σ' H', Inv X pins σ' H' s' ∧ Q σ' H') X.xe s
theorem pg_w {X : Cx} {tg : Expr} : PG X tg (tG X tg) := ⟨fun pins s _ _ _ u _ I r h => h pins s u I r⟩
theorem tG.of {X : Cx} {tg : Expr} {g : TG} {v : V} {σ : L2.St} {H : Hp} {Q : L2.St → Hp → Prop} (h : PG X tg g) (q : g v σ H Q) : tG X tg v σ H Q := fun pins s u I r => h.run pins s σ H v u Q I r q
/-- only the slots of these names may have changed -/
def Only (N ns : List Str) (σ σ' : L2.St) : Prop := σ'.length = σ.length ∧ ∀ (i : Nat) x, N[i]? = some x → x ∉ ns → σ'[i]? = σ[i]?
def DG (c : Cc) (tg : Expr) (ns : List Str) (S : Sh) (Γ Γ' : En) : Prop := Γ'.map (·.1) = Γ.map (·.1) ∧ ∀ X, Fits c (Γ.map (·.1)) X → ∀ σ B H v, EnvOk Γ σ B → Ex B H → S.p B v → ∀ Q : L2.St → Hp → Prop, (∀ σ', EnvOk Γ' σ' B → Only (Γ.map (·.1)) ns σ σ' → Q σ' H) → tG X tg v σ H Q
section
variable {c : Cc} {Γ Γ1 Γ2 : En} {x z : Str} {S S1 S2 : Sh} {p p1 pos : Pos}
theorem g_name (hp : Put Γ x (some S) Γ1) (hl : Lo c x := by first | exact Or.inl rfl | exact Or.inr ⟨rfl, rfl⟩) : DG c (.Name x p) [x] S Γ Γ1 := by
  refine ⟨hp.names, fun X fx σ B H v hE hO hv Q hQ => ?_⟩
  obtain ⟨j, h1, h2⟩ := hp.set
  refine tG.of (pg_name (i := j) (by rw [fx.ns]; exact fx.nd) (by rw [fx.ns]; exact h1) (fx.lo hl).1 (fx.lo hl).2) (hQ _ (h2 σ B v hE hv) ⟨by simp, fun k y hk hy => ?_⟩)
  refine List.getElem?_set_ne fun e => hy ?_
  subst e
  rw [h1] at hk
  simp [Option.some.inj hk]
theorem g_two [Cold c] {e1 e2 : Expr} {k} {n1 n2 : List Str} (h1 : DG c e1 n1 S1 Γ Γ1) (h2 : DG c e2 n2 S2 Γ1 Γ2) (hs : ∀ env, (assignEach [e1, e2] env).map (·.2) = assign e1 env :: (assignEach [e2] env).map (·.2) := by intro _; rfl) (hs2 : ∀ env, (assignEach [e2] env).map (·.2) = assign e2 env :: (assignEach [] env).map (·.2) := by intro _; rfl)
    (hn : ∀ env, (assignEach [e1, e2] env).length = 2 := by intro _; rfl) (hst : ∀ env, (assignEach [e1, e2] env).findIdx? (·.1) = none := by intro _; rfl) : DG c (.Tuple [e1, e2] k pos) (n1 ++ n2) (U [S1, S2]) Γ Γ2 := by
  refine ⟨h2.1.trans h1.1, fun X fx σ B H v hE hO hv Q hQ => ?_⟩
  obtain ⟨a, vs, rfl, q1, q2⟩ := hv
  obtain ⟨v, u, rfl, r1, r2⟩ := all2 q2
  refine tG.of (pg_tup (n := 2) fx.calm (pgs_cons pg_w (pgs_cons pg_w pgs_nil (hs2 _)) (hs _)) (hn _) (hst _)) ?_
  refine ⟨a, [v, u], rfl, SqT.of (hO _ _ q1), rfl, v, [u], rfl, ?_⟩
  refine h1.2 X fx σ B H v hE hO r1 _ fun σ1 hE1 o1 => ⟨u, [], rfl, ?_⟩
  refine h2.2 X (fx.re h1.1) σ1 B H u hE1 hO r2 _ fun σ2 hE2 o2 => ⟨rfl, hQ σ2 hE2 ⟨o2.1.trans o1.1, fun i x hi hx => ?_⟩⟩
  rw [o2.2 i x (by rw [h1.1]; exact hi) (fun z => hx (List.mem_append_right _ z)), o1.2 i x hi (fun z => hx (List.mem_append_left _ z))]
end

/-! ### for -/
def Jn (N : List Str) (B0 F : Hp) (J : En → Ws → Prop) : L2.St → Hp → Prop := fun σ H => ∃ Γ ω B, J Γ ω ∧ Γ.map (·.1) = N ∧ Ex B0 B ∧ EnvOk Γ σ B ∧ Own F ω B H
section
variable {c : Cc} {X : Cx} {B0 F : Hp} {D : Ends} {Γ Γ0 Γ1 Γ2 : En} {ω ω1 ω2 : Ws} {tg it : Expr} {body rest sts : List Stmt} {pos : Pos} {β : Type} {W : Nat → β → Prop} {Rb : β → Sh} {n : Nat}
/-- the body's end -/
theorem ds_turn {J : En → Ws → Prop} {N : List Str} {nx : L2.St → Hp → Prop} (f : Fg Γ Γ1) (h : J Γ1 ω) (hN : N = Γ.map (·.1)) (hx : D.nx = Jn N B0 F J) : DS c X B0 F D Γ ω [] :=
  ds_nil fun σ B H hB hE hO => by rw [hx]; exact ⟨Γ1, ω, B, h, by rw [hN, f.names], hB, f.env hE, hO⟩
theorem ds_for [Cold c] (J : Nat → En → Ws → Prop) (hi : DI c Γ ω tg it n W Rb ω1) (f : Fg Γ Γ0) (h0 : J 0 Γ0 ω1)
    (hb : ∀ B1, Ex B0 B1 → ∀ i y Γi ωi, i < n → W i y → J i Γi ωi → Γi.map (·.1) = Γ.map (·.1) → ∃ Γb ns, DG c tg ns (Rb y) Γi Γb ∧ DS c X B1 F { D with nx := Jn (Γ.map (·.1)) B1 F (J (i + 1)), ct := Jn (Γ.map (·.1)) B1 F (J (i + 1)), bk := tS X rest D } Γb ωi body)
    (hd : ∀ Γi ωi, J n Γi ωi → Γi.map (·.1) = Γ.map (·.1) → DS c X B0 F D Γi ωi rest) (hs : ∀ env x, foldedSetIterable it env x = pure x := by intro _ _; rfl) : DS c X B0 F D Γ ω (.For tg it body [] pos :: rest) := by
  intro fx σ B H hB hE hO
  refine tS.cons (ps_for fx.pass fx.calm pi_w pg_w pss_w (hs _)) ?_
  refine hi X fx F σ B H hE hO _ fun It B1 H1 e1 O1 hit => ?_
  have hB1 : Ex B0 B1 := hB.trans e1
  refine ⟨fun i m σ' H' => m = n - i ∧ i ≤ n ∧ Jn (Γ.map (·.1)) B1 F (J i) σ' H', ⟨n, by simp, Nat.zero_le _, Γ0, ω1, B1, h0, f.names, Ex.refl B1, f.env (hE.mono e1), O1⟩, ?_⟩
  rintro i m σ2 H2 ⟨rfl, hi', Γi, ωi, B2, hJ, hN, hB2, hE2, hO2⟩
  obtain ⟨q1, q2, q3⟩ := hit B2 H2 hB2 hO2.ex
  by_cases hlt : i < n
  · refine .inr ⟨q1 i hlt, Jn (Γ.map (·.1)) B1 F (J (i + 1)), fun σ' H' p' => ⟨n - (i + 1), by omega, rfl, hlt, p'⟩, fun x H3 y => ?_⟩
    obtain ⟨z, hz, q⟩ := q3 i hlt x H3 y
    obtain ⟨Γb, ns, hg, hds⟩ := hb B1 hB1 i z Γi ωi hlt hz hJ hN
    rcases q with ⟨rfl, q⟩ | ⟨T, o, hT, rfl, q⟩
    · refine hg.2 X (fx.re hN) σ2 B2 _ x hE2 hO2.ex q _ fun σ3 hE3 _ => ?_
      exact hds (fx.re (hg.1.trans hN)) σ3 B2 _ hB2 hE3 hO2
    · obtain ⟨O4, e4⟩ := hO2.new (o := o) hT
      refine hg.2 X (fx.re hN) σ2 (upd B2 T o) _ x (hE2.mono e4) O4.ex (q (hO2.none_of hT).1) _ fun σ3 hE3 _ => ?_
      exact hds (fx.re (hg.1.trans hN)) σ3 _ _ (hB2.trans e4) hE3 O4
  · have e : i = n := by omega
    subst e
    exact .inl ⟨q2, hd Γi ωi hJ hN (fx.re hN) σ2 B2 H2 (hB1.trans hB2) hE2 hO2⟩
end

/-! ### a def by its body -/
def mkΓ : List Str → List Sh → En
  | [], _ => []
  | x :: N, [] => (x, none) :: mkΓ N []
  | x :: N, s :: ss => (x, some s) :: mkΓ N ss
theorem mk_names : ∀ (N : List Str) (ss : List Sh), (mkΓ N ss).map (·.1) = N
  | [], _ => rfl
  | x :: N, [] => by show x :: (mkΓ N []).map (·.1) = _; rw [mk_names N []]
  | x :: N, s :: ss => by show x :: (mkΓ N ss).map (·.1) = _; rw [mk_names N ss]
theorem mk_none {B : Hp} : ∀ (N : List Str), EnvOk (mkΓ N []) (List.replicate N.length none) B
  | [] => trivial
  | _ :: N => mk_none N
theorem mk_env {B : Hp} : ∀ (N : List Str) (ss : List Sh) (vs : List V), All2 (fun v (s : Sh) => s.p B v) vs ss → ss.length ≤ N.length → EnvOk (mkΓ N ss) (L2.start N vs) B
  | [], [], _, .nil, _ => trivial
  | [], _ :: _, _, _, h => by simp at h
  | x :: N, [], _, .nil, _ => mk_none (x :: N)
  | x :: N, s :: ss, _, .cons (a := v) (l := vs) h t, hl => by
    have ih := mk_env (B := B) N ss vs t (by simpa using hl)
    have e : L2.start (x :: N) (v :: vs) = some v :: L2.start N vs := by
      unfold L2.start
      simp
    rw [e]
    exact ⟨⟨v, rfl, h⟩, ih⟩
theorem gd_of {τ : Type} {t : Ct τ} {M : Mo} {k : Nat} {x qual : Str} {st : Stmt} {f : Addr} {fd : FuncData} {N ps : List Str} (F : Fun M.K x qual st f fd) (S : FnScope N ps (defScope st)) (hm : M.mg x = some (.ref f)) (hb : Binds M.K fd ps []) (hlen : ∀ g, (t.As g).length = ps.length := by intro _; rfl)
    (hbody : ∀ (X : Cx) (B0 F0 : Hp) (D : Ends) (g : τ), t.pre g → Rt B0 F0 D.rt (t.S g) (t.ω' g) → (∀ σ H, D.rt .non H → D.nx σ H) → DS ⟨M, defScope st, k, true, false⟩ X B0 F0 D (mkΓ N (t.As g)) (t.ω g) (defBody st)) : Gd M (k + 1) x ps t := by
  refine ⟨f, fd, F.ok S (fun vs H Q E h => ?_) (fun cdv A outer s H vs Q E hr h => ?_), hm, F.kp, hb⟩
  · obtain ⟨g, _, _, _, h2, _⟩ := h
    rw [h2.len, hlen]
  · obtain ⟨g, F0, B, hp, hv, hO, hQ⟩ := h
    have hl : ps.length ≤ N.length := by have := congrArg List.length S.pre; rw [List.length_take] at this; omega
    refine ⟨_, pss_w, hbody _ B F0 _ g hp (fun v B' H' e1 O1 p1 => hQ v B' H' e1 O1 p1) (fun _ _ h => h) ?_ _ B H (Ex.refl B) (mk_env N _ vs hv (by rw [hlen]; exact hl)) hO⟩
    rw [mk_names]
    exact ⟨rfl, rfl, rfl, rfl, rfl, rfl, rfl, S.nd, fun _ => rfl, fun _ => hr, L2H.roomH_of hr, (fun h => nomatch h), fun _ _ _ => rfl, PassesOwn.never⟩
end ZZ

set_option maxHeartbeats 2000000
/-! Z5: enumerate and zip over lists and tuples in any mix. -/
namespace ZZ
open PySem PySem.Spec PyProof.Rows L2
open Evl (Ex)

/-! ### a list or a tuple that stands in H -/
def hoB (bb : Bool) (xs : List V) : HO := if bb then .lst xs else .tup xs
def ItB (bb : Bool) (h : Heap) (it a : Addr) (i : Nat) : Prop := match bb with
  | true => h.IsListIter it a i
  | false => h.IsTupleIter it a i
def ObB (bb : Bool) (h : Heap) (a : Addr) (items : Array Value) : Prop := match bb with
  | true => h.IsList a items
  | false => h.IsTuple a items
def itB (bb : Bool) (a : Addr) : Obj := match bb with
  | true => { cls := .type "list_iterator", data := .fields #[.ref a, .int 0 0] }
  | false => { cls := .type "tuple_iterator", data := .fields #[.ref a, .int 0 0] }
theorem draws_B {prog : Program} {w : World} {A : Around} (bb : Bool) (hh : A.handled = none) {it a : Addr} (hne : a ≠ it) (items : Array Value) : Draws prog w A it [it, a] items.size (fun i v => items[i]? = some v) (fun i h => ItB bb h it a i ∧ ObB bb h a items) := by
  cases bb with
  | true => exact Draws.list hh it a hne items
  | false => exact Draws.tuple hh it a hne items
theorem begins_B (bb : Bool) (a : Addr) (items : Array Value) : Begins (.ref a) (itB bb a) fun h => ObB bb h a items := by
  cases bb with
  | true => exact begins_list a items
  | false => exact begins_tuple a items
theorem ItB.of_get {bb : Bool} {h : Heap} {it a : Addr} (e : h.get? it = some (itB bb a)) : ItB bb h it a 0 := by
  cases bb with
  | true => exact ⟨_, e, rfl, rfl⟩
  | false => exact ⟨_, e, rfl, rfl⟩
theorem ItB.move {bb : Bool} {h h' : Heap} {it a : Addr} {i : Nat} (st : ItB bb h it a i) (k : ∀ o, h.get? it = some o → h'.get? it = some o) : ItB bb h' it a i := by
  cases bb with
  | true => exact Heap.IsListIter.at st k
  | false => exact Heap.IsTupleIter.at st k
theorem ItB.rec' {bb : Bool} {h : Heap} {it a : Addr} {i : Nat} (st : ItB bb h it a i) : ∃ o, h.get? it = some o ∧ o.cls ≠ .type "list" ∧ o.cls ≠ .type "tuple" ∧ ∀ v, o.data ≠ .cell v := by
  cases bb with
  | true =>
    obtain ⟨o, e, c, d⟩ := (show h.IsListIter it a i from st)
    exact ⟨o, e, (by rw [c]; decide +kernel), (by rw [c]; decide +kernel), fun v z => by rw [d] at z; cases z⟩
  | false =>
    obtain ⟨o, e, c, d⟩ := (show h.IsTupleIter it a i from st)
    exact ⟨o, e, (by rw [c]; decide +kernel), (by rw [c]; decide +kernel), fun v z => by rw [d] at z; cases z⟩
theorem ObB.rec' {bb : Bool} {h : Heap} {a : Addr} {items : Array Value} (p : ObB bb h a items) : ∃ o, h.get? a = some o ∧ (o.cls = .type "list" ∨ o.cls = .type "tuple") := by
  cases bb with
  | true =>
    obtain ⟨o, e, c, _⟩ := (show h.IsList a items from p)
    exact ⟨o, e, .inl c⟩
  | false =>
    obtain ⟨o, e, c, _⟩ := (show h.IsTuple a items from p)
    exact ⟨o, e, .inr c⟩
theorem ItB.apart {bb b2 : Bool} {h : Heap} {it a c : Addr} {i : Nat} {items : Array Value} (st : ItB bb h it a i) (p : ObB b2 h c items) : c ≠ it := by
  obtain ⟨o, e, n1, n2, _⟩ := st.rec'
  obtain ⟨u, e2, q⟩ := p.rec'
  rintro rfl
  rw [e] at e2; cases e2
  exact q.elim n1 n2
section
variable {X : Cx} {pins : List (Addr × Obj)} {σ : L2.St} {H : Hp} {s : Shared} {bb b2 : Bool} {a b : Addr} {xs ys : List V}
theorem src_ob (I : Inv X pins σ H s) (h : H a = some (hoB bb xs)) : ∃ its : List Value, Vals xs its ∧ ObB bb s.heap a its.toArray ∧ xs.length ≤ sizeLine := by
  cases bb with
  | true =>
    obtain ⟨its, r, p, z⟩ := I.list (SqL.of h)
    exact ⟨its, r, p.isList, z⟩
  | false =>
    obtain ⟨its, r, p, z⟩ := I.tuple (SqT.of h)
    exact ⟨its, r, p, z⟩
theorem hoB_inj (h : H a = some (hoB bb xs)) (h' : H a = some (hoB bb ys)) : xs = ys := by
  rw [h] at h'
  cases bb <;> (injection h' with e; injection e)
end

/-! ### enumerate -/
/-- one new pair a turn: the place, the item -/
def IteB (bb : Bool) (a : Addr) : It :=
  ⟨fun i H => ∃ (xs : List V) (x : V), H a = some (hoB bb xs) ∧ xs[i]? = some x, fun i H v H' => ∃ T x, v = .ref T ∧ H T = none ∧ H' = upd H T (.tup [.int (i : Nat), x]) ∧ ∀ xs, H a = some (hoB bb xs) → xs[i]? = some x,
    fun i H => ∃ xs : List V, H a = some (hoB bb xs) ∧ xs.length = i⟩
theorem turn_enumB {P : Program} {w : World} {K : PySem.W.Frag} {elts : List Expr} {kk : Nat} {tpos : Pos} (bb : Bool) (a e it : Addr) :
    Turn P w K (.Tuple elts kk tpos) (IteB bb a) [e, it] e (fun i h => (∃ old, IsEnum h e it ((i : Nat) : Int) old) ∧ ItB bb h it a i ∧ e ≠ it) where
  mem := List.mem_cons_self
  obj := fun i h st b hb => by
    obtain ⟨⟨old, he⟩, hit, _⟩ := st
    rcases (show b = e ∨ b = it by simpa using hb) with rfl | rfl
    · exact ⟨_, he, fun v q => nomatch q⟩
    · obtain ⟨o, h1, _, _, h2⟩ := hit.rec'
      exact ⟨o, h1, h2⟩
  keep := fun i h h' st k => ⟨st.1.imp fun old he => k e (by simp) _ he, st.2.1.move fun o q => k it (by simp) o q, st.2.2⟩
  item := by
    intro X hP hw hK hc i pins s σ H E I hf st hg
    subst hP hw hK
    obtain ⟨⟨old, he⟩, hit, hne⟩ := st
    obtain ⟨xs, x, hq, hx⟩ := hg
    obtain ⟨its, rv, ob, hz⟩ := src_ob I hq
    obtain ⟨u, hu, ru⟩ := rv.get hx
    have hel : e < s.heap.objs.size := Heap.lt_size he
    have hil : it < s.heap.objs.size := let ⟨_, q, _⟩ := hit.rec'; Heap.lt_size q
    have hai : a ≠ it := hit.apart ob
    have hea : e ≠ a := by
      obtain ⟨o, q1, q2⟩ := ob.rec'
      rintro rfl
      rw [he] at q1; cases q1
      rcases q2 with q | q
      · exact absurd (show Value.type "enumerate" = Value.type "list" from q) (by decide +kernel)
      · exact absurd (show Value.type "enumerate" = Value.type "tuple" from q) (by decide +kernel)
    have hi : i < its.toArray.size := by
      have := (List.getElem?_eq_some_iff.mp hu).1
      simpa using this
    have D := draws_B (prog := X.prog) (w := X.w) (A := X.A.in1) bb (I.ok.hd hc) hai its.toArray
    refine wpAny_pyNext_enum_itemD D he ⟨hit, ob⟩ hi hne (by simp [hne, hea]) fun x' h' tk hx' ho st' hT hsz hk => ?_
    have ex : x' = u := by
      have q : its.toArray[i]? = some x' := hx'
      rw [show its.toArray[i]? = some u by simpa using hu] at q
      exact (Option.some.inj q).symm
    subst ex
    refine ⟨_, rfl, wpAny_letOwnedTupleGo_enum (s := { s with heap := h', toks := tk + 1 }) ho fun h'' he' sb => ?_⟩
    have hT2 : h''.get? s.heap.objs.size = some { cls := .type "tuple", data := .seq #[.int i tk, x'] } := (sb.2 _ (Nat.ne_of_gt hel)).trans hT
    have new : ObjOk X.prog X.w (upd H s.heap.objs.size (.tup [.int (i : Nat), x])) h'' s.heap.objs.size (.tup [.int (i : Nat), x]) :=
      ⟨(show 2 ≤ sizeLine by decide), [.int i tk, x'], .cons ⟨_, rfl⟩ (.cons ru .nil), ⟨_, hT2, rfl, _, rfl⟩⟩
    have I1 : Inv X pins σ (upd H s.heap.objs.size (.tup [.int (i : Nat), x])) { s with heap := h'', toks := tk + 1 } :=
      I.turnedNew (ch := [e, it]) (fun b o hb q => (sb.2 b (fun z => hb (by rw [z]; simp))).trans (hk b o (fun z => hb (by rw [z]; simp)) (fun z => hb (by rw [z]; simp)) q)) hf (Nat.le_refl _) new
    refine ⟨.ref s.heap.objs.size, _, I1, rfl, ⟨_, x, rfl, I.hok.fresh (Nat.le_refl _), rfl, fun ys hy => by rw [hoB_inj hy hq]; exact hx⟩, ⟨⟨x', ?_⟩, st'.1.move fun o q => (sb.2 it (Ne.symm hne)).trans q, hne⟩, fun b hb => ?_⟩
    · rw [show ((i + 1 : Nat) : Int) = (i : Int) + 1 by omega]; exact he'
    · have hb' : b < s.heap.objs.size := by
        rcases (show b = e ∨ b = it by simpa using hb) with z | z <;> rw [z]
        · exact hel
        · exact hil
      rw [upd_ne (Nat.ne_of_lt hb')]
      exact (hf b hb).1
  done := by
    intro X hP hw hK hc i pins s σ H E I hf st hg
    subst hP hw hK
    obtain ⟨⟨old, he⟩, hit, hne⟩ := st
    obtain ⟨xs, hq, hx⟩ := hg
    obtain ⟨its, rv, ob, hz⟩ := src_ob I hq
    obtain ⟨f0, f1, f2, f3, f4, f5⟩ := hf it (by simp)
    have D := draws_B (prog := X.prog) (w := X.w) (A := X.A.in1) bb (I.ok.hd hc) (hit.apart ob) its.toArray
    have hn : its.toArray.size = i := by rw [List.size_toArray, ← rv.length]; exact hx
    exact wpAny_pyNext_enum_endD D he ⟨by rw [hn]; exact hit, ob⟩ fun h' eb => ⟨rfl, I.turned (t' := s.toks) (fun b o hb q => eb b o hb q) f0 f1 f3 f4 f5⟩
  self := fun A i s Q E st h => let ⟨⟨_, he⟩, _⟩ := st; wpAny_pyIter_enum he h

/-- enumerate(v) with the start left out -/
theorem meets_enum1 {v : Value} {o : Obj} {G : Heap → Prop} (B : Begins v o G) : Meets (Builtin.«enumerate.__new__» ⟨[.type "enumerate", v], []⟩) (fun _ R s => G s.heap ∧
      R (.ok (.ret (.ref (s.heap.push o).objs.size))) { s with heap := (s.heap.push o).push { cls := .type "enumerate", data := .fields #[.none, .bool false, .ref s.heap.objs.size, rawInt 0, .none, .none] } }) :=
  .of_wp fun prog w A R s h => by
    obtain ⟨hp, g, d, tk, os⟩ := s
    obtain ⟨h1, h⟩ := h
    have hsub := sub_enumerate
    have go : ∀ {A' : Around} {E : Value → Shared → Prop} {Q : Value → Shared → Prop}, Q (.ref hp.objs.size) ⟨hp.push o, g, d, tk, os⟩ → wpAny (model prog w) A' (pyIter v) Q E ⟨hp, g, d, tk, os⟩ := fun q => B.iter _ _ _ _ _ _ h1 q
    wp_walk using go
    refine wpAny_stack_any fun st => wpAny_pure ?_
    split
    · rename_i c _ _ _ _ _
      cases (c == Value.type "enumerate") <;> (wp_walk using go; exact ⟨_, rfl, h⟩)
    · (wp_walk using go; exact ⟨_, rfl, h⟩)
theorem call_enum1 {prog : Program} {w : World} {A : Around} {E : Value → Shared → Prop} {s : Shared} {v : Value} {o : Obj} {G : Heap → Prop} {Q : Value → Shared → Prop} (B : Begins v o G) (h1 : G s.heap)
    (h : ∀ h', IsEnum h' (s.heap.objs.size + 1) s.heap.objs.size 0 .none → h'.get? s.heap.objs.size = some o → (∀ b o, s.heap.get? b = some o → h'.get? b = some o) → Q (.ref (s.heap.objs.size + 1)) { s with heap := h' }) :
    wpAny (model prog w) A (call (.type "enumerate") [v]) Q E s := by
  refine callType_new F.called_enumerate (by decide) (F.typeCall_enumerate_1 _) (F.newCall_enumerate_1 _) (fun obj => F.args_object_init_2 obj _) F.entry_enumerate_new (meets_enum1 B) ⟨h1, ?_⟩
  have hz : (s.heap.push o).objs.size = s.heap.objs.size + 1 := Heap.size_push ..
  have he := Heap.get?_push_size (s.heap.push o) (o := { cls := .type "enumerate", data := .fields #[.none, .bool false, .ref s.heap.objs.size, rawInt 0, .none, .none] }) rfl
  show _ ∧ _
  rw [hz] at he ⊢
  exact ⟨⟨_, he, rfl⟩, h _ he (Heap.get?_push_of_some _ (Heap.get?_push_size _ B.free)) fun b o x => Heap.get?_push_of_some _ (Heap.get?_push_of_some _ x)⟩
def iEnumB (bb : Bool) (ta : TA) : TI := fun σ H R => ta σ H fun vs H1 => ∃ a xs, vs = [.ref a] ∧ H1 a = some (hoB bb xs) ∧ R (IteB bb a) H1
theorem pi_enumB {X : Cx} {e : Expr} {ta : TA} {p pos tpos : Pos} {elts : List Expr} {kk : Nat} (bb : Bool) (hg : Gl X "enumerate") (hm : X.mg "enumerate" = none) (ha : PA X [e] ta) (hs : starEach [e] X.env = [(false, eval e X.env)]) :
    PI X (.Tuple elts kk tpos) (.Call (.Name "enumerate" p) [e] [] pos) (iEnumB bb ta) := by
  refine ⟨fun pins s σ H R I h => Call_ (ld_blt I hg hm boot_enumerate (PyProof.Rows.callWith_type1 (thn (ha.run pos pins s σ H _ I h) fun us s1 ⟨vs, H1, I1, r1, a, xs, ex, hq, q⟩ => ?_) hs rfl))⟩
  subst ex
  obtain ⟨u, rfl, r⟩ := Vals.one r1
  cases (show u = Value.ref a from r)
  obtain ⟨its, rv, ob, hz⟩ := src_ob I1 hq
  refine call_enum1 (begins_B bb a its.toArray) ob fun h' he hit hk => wpAny_pyIter_enum he ?_
  have I2 : Inv X pins σ H1 { s1 with heap := h' } := I1.kept (t' := s1.toks) hk
  refine ⟨s1.heap.objs.size + 1, [s1.heap.objs.size + 1, s1.heap.objs.size], _, _, H1, rfl, I2, turn_enumB bb a (s1.heap.objs.size + 1) s1.heap.objs.size, ⟨⟨.none, he⟩, ItB.of_get hit, Nat.succ_ne_self _⟩, fun b hb => ?_, q⟩
  have hle : s1.heap.objs.size ≤ b := by
    rcases (show b = s1.heap.objs.size + 1 ∨ b = s1.heap.objs.size by simpa using hb) with z | z <;> rw [z]
    · exact Nat.le_add_right _ _
    · exact Nat.le_refl _
  exact I1.fpOk hle (I1.hok.fresh hle)

/-! ### zip of two -/
def ItzB (b1 b2 : Bool) (a b : Addr) : It :=
  ⟨fun i H => ∃ (xs ys : List V) (x y : V), H a = some (hoB b1 xs) ∧ H b = some (hoB b2 ys) ∧ xs[i]? = some x ∧ ys[i]? = some y,
    fun i H v H' => ∃ T x y, v = .ref T ∧ H T = none ∧ H' = upd H T (.tup [x, y]) ∧ (∀ xs, H a = some (hoB b1 xs) → xs[i]? = some x) ∧ ∀ ys, H b = some (hoB b2 ys) → ys[i]? = some y,
    fun i H => ∃ xs ys : List V, H a = some (hoB b1 xs) ∧ H b = some (hoB b2 ys) ∧ i ≤ xs.length ∧ i ≤ ys.length ∧ (i = xs.length ∨ i = ys.length)⟩
structure ZAp (z TI TO i1 i2 : Addr) : Prop where
  TIz : TI ≠ z
  TOz : TO ≠ z
  TITO : TI ≠ TO
  TIi1 : TI ≠ i1
  TIi2 : TI ≠ i2
  zi1 : z ≠ i1
  zi2 : z ≠ i2
  Ti1 : TO ≠ i1
  Ti2 : TO ≠ i2
  ii : i1 ≠ i2
theorem turn_zipB {P : Program} {w : World} {K : PySem.W.Frag} {elts : List Expr} {kk : Nat} {tpos : Pos} (b1 b2 : Bool) {a b z TI TO i1 i2 : Addr} (Z : ZAp z TI TO i1 i2) :
    Turn P w K (.Tuple elts kk tpos) (ItzB b1 b2 a b) [z, TI, TO, i1, i2] z (fun i h => IsZip h z TI TO .none ∧ IsTupOf2 h TI (.ref i1) (.ref i2) ∧ (∃ x y, IsTupOf2 h TO x y) ∧ ItB b1 h i1 a i ∧ ItB b2 h i2 b i) where
  mem := List.mem_cons_self
  obj := fun i h st c hc => by
    obtain ⟨hz, hTI, ⟨x, y, hTO⟩, h1, h2⟩ := st
    rcases (show c = z ∨ c = TI ∨ c = TO ∨ c = i1 ∨ c = i2 by simpa using hc) with rfl | rfl | rfl | rfl | rfl
    · exact ⟨_, hz, fun v q => nomatch q⟩
    · exact ⟨_, hTI, fun v q => nomatch q⟩
    · exact ⟨_, hTO, fun v q => nomatch q⟩
    · obtain ⟨o, q1, _, _, q2⟩ := h1.rec'; exact ⟨o, q1, q2⟩
    · obtain ⟨o, q1, _, _, q2⟩ := h2.rec'; exact ⟨o, q1, q2⟩
  keep := fun i h h' st k => by
    obtain ⟨hz, hTI, ⟨x, y, hTO⟩, h1, h2⟩ := st
    exact ⟨k z (by simp) _ hz, k TI (by simp) _ hTI, ⟨x, y, k TO (by simp) _ hTO⟩, h1.move fun o q => k i1 (by simp) o q, h2.move fun o q => k i2 (by simp) o q⟩
  item := by
    intro X hP hw hK hc i pins s σ H E I hf st hg
    subst hP hw hK
    obtain ⟨hz, hTI, ⟨x0, y0, hTO⟩, h1, h2⟩ := st
    obtain ⟨xs, ys, x, y, hqx, hqy, hx, hy⟩ := hg
    obtain ⟨its, rv, ob1, _⟩ := src_ob I hqx
    obtain ⟨its2, rv2, ob2, _⟩ := src_ob I hqy
    obtain ⟨u, hu, ru⟩ := rv.get hx
    obtain ⟨u2, hu2, ru2⟩ := rv2.get hy
    have trk : ∀ {c d : Addr} {bb : Bool} {l : List V}, c ∈ [z, TI, TO, i1, i2] → H d = some (hoB bb l) → c ≠ d := fun hm hd => by
      rintro rfl
      rw [(hf _ hm).1] at hd; cases hd
    have S : ZipSep2 z TI TO i1 i2 [i1, a] [i2, b] := ⟨Z.TIz, Z.TOz, Z.TITO, Z.TIi1, by simp, by simp [Z.zi1, trk (c := z) (by simp) hqx], by simp [Z.Ti1, trk (c := TO) (by simp) hqx], Z.TIi2, by simp, by simp [Z.zi2, trk (c := z) (by simp) hqy], by simp [Z.Ti2, trk (c := TO) (by simp) hqy],
      by simp [Z.ii, trk (c := i1) (by simp) hqy], by simp [Ne.symm Z.ii, trk (c := i2) (by simp) hqx]⟩
    have D1 := draws_B (prog := X.prog) (w := X.w) (A := X.A.in1) b1 (I.ok.hd hc) (Ne.symm (trk (c := i1) (by simp) hqx)) its.toArray
    have D2 := draws_B (prog := X.prog) (w := X.w) (A := X.A.in1) b2 (I.ok.hd hc) (Ne.symm (trk (c := i2) (by simp) hqy)) its2.toArray
    have l1 : i < its.toArray.size := by simpa using (List.getElem?_eq_some_iff.mp hu).1
    have l2 : i < its2.toArray.size := by simpa using (List.getElem?_eq_some_iff.mp hu2).1
    have hzl : z < s.heap.objs.size := Heap.lt_size hz
    refine wpAny_pyNext_zipD2_item S D1 D2 hz hTI hTO ⟨h1, ob1⟩ ⟨h2, ob2⟩ l1 l2 fun x' y' h' tk q1 q2 z' TO' h1' h2' hT hsz hk => ?_
    have ex : x' = u := by
      have q : its.toArray[i]? = some x' := q1
      rw [show its.toArray[i]? = some u by simpa using hu] at q
      exact (Option.some.inj q).symm
    have ey : y' = u2 := by
      have q : its2.toArray[i]? = some y' := q2
      rw [show its2.toArray[i]? = some u2 by simpa using hu2] at q
      exact (Option.some.inj q).symm
    subst ex ey
    refine ⟨_, rfl, wpAny_letOwnedTupleGo_zip (s := { s with heap := h', toks := tk }) z' fun h'' z'' sb => ?_⟩
    have hT2 : h''.get? s.heap.objs.size = some { cls := .type "tuple", data := .seq #[x', y'] } := (sb.2 _ (Nat.ne_of_gt hzl)).trans hT
    have new : ObjOk X.prog X.w (upd H s.heap.objs.size (.tup [x, y])) h'' s.heap.objs.size (.tup [x, y]) := ⟨(show 2 ≤ sizeLine by decide), [x', y'], .cons ru (.cons ru2 .nil), ⟨_, hT2, rfl, _, rfl⟩⟩
    have I1 : Inv X pins σ (upd H s.heap.objs.size (.tup [x, y])) { s with heap := h'', toks := tk } :=
      I.turnedNew (ch := [z, TI, TO, i1, i2]) (fun c o hb q => (sb.2 c (fun r => hb (by rw [r]; simp))).trans (hk c o (fun r => hb (by rw [r]; simp)) (fun r => hb (by rw [r]; simp)) (fun r => hb (by rw [r]; simp)) (fun r => hb (by rw [r]; simp)) q)) hf (Nat.le_refl _) new
    refine ⟨.ref s.heap.objs.size, _, I1, rfl, ⟨_, x, y, rfl, I.hok.fresh (Nat.le_refl _), rfl, fun l hl => by rw [hoB_inj hl hqx]; exact hx, fun l hl => by rw [hoB_inj hl hqy]; exact hy⟩,
      ⟨z'', (sb.2 _ Z.TIz).trans (hk _ _ Z.TIz Z.TITO Z.TIi1 Z.TIi2 hTI), ⟨x', y', (sb.2 _ Z.TOz).trans TO'⟩, h1'.1.move fun o q => (sb.2 _ (Ne.symm Z.zi1)).trans q, h2'.1.move fun o q => (sb.2 _ (Ne.symm Z.zi2)).trans q⟩, fun c hcm => ?_⟩
    have hlt : c < s.heap.objs.size := by
      rcases (show c = z ∨ c = TI ∨ c = TO ∨ c = i1 ∨ c = i2 by simpa using hcm) with q | q | q | q | q <;> rw [q]
      · exact hzl
      · exact Heap.lt_size hTI
      · exact Heap.lt_size hTO
      · exact let ⟨_, e1, _⟩ := h1.rec'; Heap.lt_size e1
      · exact let ⟨_, e1, _⟩ := h2.rec'; Heap.lt_size e1
    rw [upd_ne (Nat.ne_of_lt hlt)]
    exact (hf c hcm).1
  done := by
    intro X hP hw hK hc i pins s σ H E I hf st hg
    subst hP hw hK
    obtain ⟨hz, hTI, ⟨x0, y0, hTO⟩, h1, h2⟩ := st
    obtain ⟨xs, ys, hqx, hqy, le1, le2, hend⟩ := hg
    obtain ⟨its, rv, ob1, _⟩ := src_ob I hqx
    obtain ⟨its2, rv2, ob2, _⟩ := src_ob I hqy
    have trk : ∀ {c d : Addr} {bb : Bool} {l : List V}, c ∈ [z, TI, TO, i1, i2] → H d = some (hoB bb l) → c ≠ d := fun hm hd => by
      rintro rfl
      rw [(hf _ hm).1] at hd; cases hd
    have S : ZipSep2 z TI TO i1 i2 [i1, a] [i2, b] := ⟨Z.TIz, Z.TOz, Z.TITO, Z.TIi1, by simp, by simp [Z.zi1, trk (c := z) (by simp) hqx], by simp [Z.Ti1, trk (c := TO) (by simp) hqx], Z.TIi2, by simp, by simp [Z.zi2, trk (c := z) (by simp) hqy], by simp [Z.Ti2, trk (c := TO) (by simp) hqy],
      by simp [Z.ii, trk (c := i1) (by simp) hqy], by simp [Ne.symm Z.ii, trk (c := i2) (by simp) hqx]⟩
    have D1 := draws_B (prog := X.prog) (w := X.w) (A := X.A.in1) b1 (I.ok.hd hc) (Ne.symm (trk (c := i1) (by simp) hqx)) its.toArray
    have D2 := draws_B (prog := X.prog) (w := X.w) (A := X.A.in1) b2 (I.ok.hd hc) (Ne.symm (trk (c := i2) (by simp) hqy)) its2.toArray
    have e1 := rv.length
    have e2 := rv2.length
    exact wpAny_pyNext_zipD2_end S D1 D2 hz hTI hTO ⟨h1, ob1⟩ ⟨h2, ob2⟩ (by simp; omega) (by simp; omega) (by simp; omega) fun h' tk hk => ⟨rfl, I.turnedL (ch := [z, TI, TO, i1, i2]) (fun c o hb q =>
      hk c o (fun r => hb (by rw [r]; simp)) (fun r => hb (by rw [r]; simp)) (fun r => hb (by rw [r]; simp)) (fun r => hb (by rw [r]; simp)) q) hf⟩
  self := fun A i s Q E st h => wpAny_pyIter_zip st.1 h
def iZipB (b1 b2 : Bool) (ta : TA) : TI := fun σ H R => ta σ H fun vs H1 => ∃ a b xs ys, vs = [.ref a, .ref b] ∧ H1 a = some (hoB b1 xs) ∧ H1 b = some (hoB b2 ys) ∧ R (ItzB b1 b2 a b) H1
theorem pi_zipB {X : Cx} {e e2 : Expr} {ta : TA} {p pos tpos : Pos} {elts : List Expr} {kk : Nat} (b1 b2 : Bool) (hg : Gl X "zip") (hm : X.mg "zip" = none) (ha : PA X [e, e2] ta)
    (hs : starEach [e, e2] X.env = (false, eval e X.env) :: starEach [e2] X.env) (hpl : (backTo pos (starEach [e2] X.env)).any (·.1) = false) : PI X (.Tuple elts kk tpos) (.Call (.Name "zip" p) [e, e2] [] pos) (iZipB b1 b2 ta) := by
  refine ⟨fun pins s σ H R I h => Call_ (ld_blt I hg hm PyProof.Rows.boot_zip (PyProof.Rows.callWith_type1 (thn (ha.run pos pins s σ H _ I h) fun us s1 ⟨vs, H1, I1, r1, a, b, xs, ys, ex, hqx, hqy, q⟩ => ?_) hs hpl))⟩
  subst ex
  obtain ⟨u, v, rfl, r, r'⟩ := Vals.two r1
  cases (show u = Value.ref a from r)
  cases (show v = Value.ref b from r')
  obtain ⟨its, rv, ob1, _⟩ := src_ob I1 hqx
  obtain ⟨its2, rv2, ob2, _⟩ := src_ob I1 hqy
  refine zip_begins2 (begins_B b1 a its.toArray) (begins_B b2 b its2.toArray) ob1 ob2 fun h' hz hTI hTO h1 h2 hsz hk => wpAny_pyIter_zip hz ?_
  have I2 : Inv X pins σ H1 { s1 with heap := h' } := I1.kept (t' := s1.toks) hk
  have nes : ∀ m n : Nat, m ≠ n → s1.heap.objs.size + m ≠ s1.heap.objs.size + n := fun m n h q => h (Nat.add_left_cancel q)
  refine ⟨s1.heap.objs.size + 4, [s1.heap.objs.size + 4, s1.heap.objs.size + 2, s1.heap.objs.size + 3, s1.heap.objs.size, s1.heap.objs.size + 1], _, _, H1, rfl, I2,
    turn_zipB b1 b2 ⟨nes 2 4 (by decide), nes 3 4 (by decide), nes 2 3 (by decide), nes 2 0 (by decide), nes 2 1 (by decide), nes 4 0 (by decide), nes 4 1 (by decide), nes 3 0 (by decide), nes 3 1 (by decide), nes 0 1 (by decide)⟩,
    ⟨hz, hTI, ⟨_, _, hTO⟩, ItB.of_get h1, ItB.of_get h2⟩, fun c hcm => ?_, q⟩
  have hle : s1.heap.objs.size ≤ c := by
    rcases (show c = s1.heap.objs.size + 4 ∨ c = s1.heap.objs.size + 2 ∨ c = s1.heap.objs.size + 3 ∨ c = s1.heap.objs.size ∨ c = s1.heap.objs.size + 1 by simpa using hcm) with z | z | z | z | z <;> rw [z] <;> first | exact Nat.le_add_right _ _ | exact Nat.le_refl _
  exact I1.fpOk hle (I1.hok.fresh hle)

/-! ### over the shapes -/
section
variable {c : Cc} {Γ : En} {ω ω1 ω2 : Ws} {a b : Expr} {α β : Type} {Rs : α → Sh} {Rt' : β → Sh} {xs : List α} {ys : List β} {bb b1 b2 : Bool} {pos p tpos : Pos} {elts : List Expr} {kk : Nat}
theorem sq_ho {B : Hp} {v : V} (h : (Sq bb Rs xs).p B v) : ∃ a vs, v = .ref a ∧ B a = some (hoB bb vs) ∧ All2 (fun v x => (Rs x).p B v) vs xs := h
theorem i_enum (h : DE c Γ ω a (Sq bb Rs xs) ω1) (hm : c.M.mg "enumerate" = none) (hg : Glo c.sc "enumerate" := by exact rfl) (he : ∀ env, starEach [a] env = [(false, eval a env)] := by intro _; rfl) :
    DI c Γ ω (.Tuple elts kk tpos) (.Call (.Name "enumerate" p) [a] [] pos) xs.length (fun i (y : Int × α) => y.1 = (i : Int) ∧ xs[i]? = some y.2) (fun y => U [I y.1, Rs y.2]) ω1 := by
  intro X fx F σ B H hE hO R hR
  refine tI.of (pi_enumB bb (gl_of fx hg) (by rw [fx.mg]; exact hm) pa_w (he _)) ?_
  refine a_cons h a_nil (by intro env; rw [he]; rfl) X fx F σ B H hE hO _ fun vs B1 H1 e1 O1 p1 => ?_
  obtain ⟨v, rfl, hv⟩ := all1 p1
  obtain ⟨a1, us, rfl, g0, g2⟩ := sq_ho hv
  refine ⟨a1, us, rfl, O1.ex _ _ g0, hR _ B1 H1 e1 O1 fun B2 H2 e2 e3 => ?_⟩
  have G : H2 a1 = some (hoB bb us) := e3 _ _ (e2 _ _ g0)
  have hl := g2.len
  refine ⟨fun i hi => ⟨us, us[i]'(by omega), G, by simp [show i < us.length by omega]⟩, ⟨us, G, hl⟩, fun i hi x H3 y => ?_⟩
  obtain ⟨T, z, rfl, hT, rfl, hz⟩ := y
  obtain ⟨y, q1, q2⟩ := g2.get' (hz us G)
  refine ⟨((i : Int), y), ⟨rfl, q1⟩, .inr ⟨T, _, hT, rfl, fun hB => ?_⟩⟩
  have e4 : Ex B2 (upd B2 T (.tup [.int (i : Nat), z])) := Ex.new hB
  exact ⟨T, _, rfl, upd_same, .cons rfl (.cons ((Rs y).mono (e2.trans e4) q2) .nil)⟩
theorem i_zip (h : DE c Γ ω a (Sq b1 Rs xs) ω1) (h' : DE c Γ ω1 b (Sq b2 Rt' ys) ω2) (hm : c.M.mg "zip" = none) (hg : Glo c.sc "zip" := by exact rfl) (he : ∀ env, starEach [a, b] env = (false, eval a env) :: starEach [b] env := by intro _; rfl) (he2 : ∀ env, starEach [b] env = (false, eval b env) :: starEach [] env := by intro _; rfl)
    (hpl : ∀ env, (backTo pos (starEach [b] env)).any (·.1) = false := by intro _; rfl) :
    DI c Γ ω (.Tuple elts kk tpos) (.Call (.Name "zip" p) [a, b] [] pos) (min xs.length ys.length) (fun i (y : α × β) => xs[i]? = some y.1 ∧ ys[i]? = some y.2) (fun y => U [Rs y.1, Rt' y.2]) ω2 := by
  intro X fx F σ B H hE hO R hR
  refine tI.of (pi_zipB b1 b2 (gl_of fx hg) (by rw [fx.mg]; exact hm) pa_w (he _) (hpl _)) ?_
  refine a_cons h (a_cons h' a_nil he2) he X fx F σ B H hE hO _ fun vs B1 H1 e1 O1 p1 => ?_
  obtain ⟨v, u, rfl, hv, hu⟩ := all2 p1
  obtain ⟨a1, us, rfl, g0, g2⟩ := sq_ho hv
  obtain ⟨a2, ws, rfl, k0, k2⟩ := sq_ho hu
  refine ⟨a1, a2, us, ws, rfl, O1.ex _ _ g0, O1.ex _ _ k0, hR _ B1 H1 e1 O1 fun B2 H2 e2 e3 => ?_⟩
  have G : H2 a1 = some (hoB b1 us) := e3 _ _ (e2 _ _ g0)
  have G2 : H2 a2 = some (hoB b2 ws) := e3 _ _ (e2 _ _ k0)
  have hl := g2.len
  have hl2 := k2.len
  refine ⟨fun i hi => ⟨us, ws, us[i]'(by omega), ws[i]'(by omega), G, G2, by simp [show i < us.length by omega], by simp [show i < ws.length by omega]⟩, ⟨us, ws, G, G2, by omega, by omega, by omega⟩, fun i hi x H3 y => ?_⟩
  obtain ⟨T, z, z2, rfl, hT, rfl, hz, hz2⟩ := y
  obtain ⟨y, q1, q2⟩ := g2.get' (hz us G)
  obtain ⟨y2, r1, r2⟩ := k2.get' (hz2 ws G2)
  refine ⟨(y, y2), ⟨q1, r1⟩, .inr ⟨T, _, hT, rfl, fun hB => ?_⟩⟩
  have e4 : Ex B2 (upd B2 T (.tup [z, z2])) := Ex.new hB
  exact ⟨T, _, rfl, upd_same, .cons ((Rs y).mono (e2.trans e4) q2) (.cons ((Rt' y2).mono (e2.trans e4) r2) .nil)⟩
end
end ZZ

set_option maxHeartbeats 2000000
/-! Z6: list comprehensions with one for. -/
namespace ZZ
open PySem PySem.Spec PyProof.Rows L2
open Evl (Ex)

theorem wipe_mem {σ : L2.St} {i : Nat} : ∀ {vs : List Nat}, i ∈ vs → i < σ.length → (wipe σ vs)[i]? = some none
  | [], h, _ => by cases h
  | v :: vs, h, hl => by
    unfold wipe
    by_cases e : v = i
    · subst e
      rw [List.getElem?_set_self (by rw [wipe_length]; exact hl)]
    · rw [List.getElem?_set_ne e]
      exact wipe_mem ((List.mem_cons.mp h).resolve_left fun z => e z.symm) hl
theorem wipe_not {σ : L2.St} {i : Nat} : ∀ {vs : List Nat}, i ∉ vs → (wipe σ vs)[i]? = σ[i]?
  | [], _ => rfl
  | v :: vs, h => by
    unfold wipe
    rw [List.getElem?_set_ne (fun e => h (by rw [e]; exact List.mem_cons_self))]
    exact wipe_not fun z => h (List.mem_cons_of_mem _ z)
theorem EnvOk.len : ∀ {Γ : En} {σ : L2.St} {B : Hp}, EnvOk Γ σ B → σ.length = Γ.length
  | [], [], _, _ => rfl
  | (_, none) :: Γ, _ :: σ, _, h => by simp [EnvOk.len (Γ := Γ) (σ := σ) h]
  | (_, some _) :: Γ, _ :: σ, _, h => by simp [EnvOk.len (Γ := Γ) (σ := σ) h.2]
  | [], _ :: _, _, h => h.elim
  | (_, none) :: _, [], _, h => h.elim
  | (_, some _) :: _, [], _, h => h.elim
theorem Put.wipe1 : ∀ {Γ Γ' : En} {x : Str}, Put Γ x none Γ' → ∃ i : Nat, (Γ.map (·.1))[i]? = some x ∧ ∀ (σ : L2.St) (B : Hp), EnvOk Γ σ B → EnvOk Γ' (σ.set i none) B
  | _, _, _, .z (Γ := Γ) (x := x) (o := o) => by
    refine ⟨0, rfl, fun σ B h => ?_⟩
    cases σ with
    | nil => cases o <;> exact h.elim
    | cons a σ =>
      cases o with
      | none => exact h
      | some T => exact h.2
  | _, _, _, .s (e := e) hp => by
    obtain ⟨i, h1, h2⟩ := Put.wipe1 hp
    refine ⟨i + 1, by simpa using h1, fun σ B h => ?_⟩
    obtain ⟨y, o⟩ := e
    cases σ with
    | nil => cases o <;> exact h.elim
    | cons a σ =>
      cases o with
      | none => exact h2 σ B h
      | some T => exact ⟨h.1, h2 σ B h.2⟩
/-- the comprehension's own names are forgotten -/
inductive Wip : En → List (Str × Nat) → En → Prop
  | nil {Γ} : Wip Γ [] Γ
  | cons {Γ Γ1 Γ2 own x i} : Wip Γ own Γ1 → Put Γ1 x none Γ2 → Wip Γ ((x, i) :: own) Γ2
theorem Wip.names : ∀ {Γ Γ' : En} {own : List (Str × Nat)}, Wip Γ own Γ' → Γ'.map (·.1) = Γ.map (·.1)
  | _, _, _, .nil => rfl
  | _, _, _, .cons w p => p.names.trans w.names
theorem Wip.env {N : List Str} (nd : N.Nodup) : ∀ {Γ Γ' : En} {own : List (Str × Nat)} {σ : L2.St} {B : Hp}, Wip Γ own Γ' → Γ.map (·.1) = N → (∀ p ∈ own, N[p.2]? = some p.1) → EnvOk Γ σ B → EnvOk Γ' (wipe σ (own.map (·.2))) B
  | _, _, _, _, _, .nil, _, _, h => h
  | _, _, _, _, _, .cons (x := x) (i := i) w p, hN, ix, h => by
    have ih := w.env nd hN (fun q hq => ix q (List.mem_cons_of_mem _ hq)) h
    obtain ⟨j, h1, h2⟩ := p.wipe1
    have e : j = i := nodup_ix nd (by rw [← hN, ← w.names]; exact h1) (ix _ List.mem_cons_self)
    subst e
    exact h2 _ _ ih
theorem wipe_only {N ns : List Str} {own : List (Str × Nat)} {σ σ2 : L2.St} (nd : N.Nodup) (hl : σ.length = N.length) (ix : ∀ p ∈ own, N[p.2]? = some p.1) (hs : ∀ x ∈ ns, x ∈ own.map (·.1)) (o : Only N ns (wipe σ (own.map (·.2))) σ2) :
    wipe σ2 (own.map (·.2)) = wipe σ (own.map (·.2)) := by
  have l2 : σ2.length = σ.length := by rw [o.1, wipe_length]
  refine List.ext_getElem? fun i => ?_
  by_cases hi : i < σ.length
  · by_cases hm : i ∈ own.map (·.2)
    · rw [wipe_mem hm hi, wipe_mem hm (by omega)]
    · rw [wipe_not hm, o.2 i N[i] (List.getElem?_eq_getElem (by omega)) fun hx => ?_]
      obtain ⟨⟨y, j⟩, hp, e⟩ := List.mem_map.mp (hs _ hx)
      have q := ix _ hp
      have e : y = N[i] := e
      rw [e] at q
      have : j = i := nodup_ix nd q (List.getElem?_eq_getElem (by omega))
      subst this
      exact hm (List.mem_map.mpr ⟨_, hp, rfl⟩)
  · rw [List.getElem?_eq_none (by rw [wipe_length]; omega), List.getElem?_eq_none (by rw [wipe_length]; omega)]
theorem Fits.blk {c : Cc} [Cold c] {N : List Str} {X : Cx} (fx : Fits c N X) (s : Shared) (H : Hp) (scope : Scope) (C : Addr) (cl : List (Str × Addr)) (fp : List Addr) : Fits ⟨c.M, relS scope c.sc, c.k, false, false⟩ N (X.blk s H scope (compEnvC scope cl C X.env) fp) :=
  ⟨fx.prog, fx.w, fx.K, fx.mg, fx.base, (by show relS scope X.env.scope = _; rw [fx.sc]), fx.ns, fx.nd, fun _ => fx.calm, fun _ => fx.room, fx.roomH, (fun h => nomatch h), (fun h => nomatch h), PassesOwn.never⟩
/-- a new list of which something is known -/
def DNE {α : Type} (c : Cc) (Γ : En) (ω : Ws) (e : Expr) (P : List α → Prop) (R : α → Sh) (ω' : Ws) : Prop :=
  ∀ X, Fits c (Γ.map (·.1)) X → ∀ F σ B H, EnvOk Γ σ B → Own F ω B H → ∀ Q : VK, (∀ l ys B' H', P ys → Ex B B' → Own F (ω' ++ [(l, Cl R ys)]) B' H' → Q (.ref l) H') → tW X e σ H Q
theorem DNE.dn {α : Type} {c : Cc} {Γ : En} {ω ω' : Ws} {e : Expr} {R : α → Sh} {xs : List α} (h : DNE c Γ ω e (· = xs) R ω') : DN c Γ ω e R xs ω' := fun X fx F σ B H hE hO Q hQ =>
  h X fx F σ B H hE hO Q fun l ys B' H' e => by subst e; exact hQ l B' H'
theorem DNE.frz {α : Type} {c : Cc} {Γ : En} {ω ω' : Ws} {e : Expr} {R : α → Sh} {P : List α → Prop} (h : DNE c Γ ω e P R ω') : DE c Γ ω e (Es P (L R)) ω' := fun X fx F σ B H hE hO Q hQ =>
  h X fx F σ B H hE hO Q fun l ys B' H' hy e1 O1 => by
    obtain ⟨o, h1, ⟨vs, rfl, h3⟩, O2, e2⟩ := O1.freeze tak_last
    exact hQ _ _ _ (e1.trans e2) O2 ⟨ys, hy, l, vs, rfl, upd_same, h3.mp fun _ s q => (R s).mono e2 q⟩
theorem swp_last {ω : Ws} {l : Addr} {C C' : Co} : Swp (ω ++ [(l, C)]) l C C' (ω ++ [(l, C')]) := by
  induction ω with
  | nil => exact .z
  | cons e ω ih => exact .s ih
def gBlk (X : Cx) (scope : Scope) (tg : Expr) : TG := fun v σ H Q => ∀ s H0 C cl fp, tG (X.blk s H0 scope (compEnvC scope cl C X.env) fp) tg v σ H Q
def eBlk (X : Cx) (scope : Scope) (e : Expr) : TE := fun σ H Q => ∀ s H0 C cl fp, tW (X.blk s H0 scope (compEnvC scope cl C X.env) fp) e σ H Q
def cBlk (X : Cx) (scope : Scope) (ifs : List Expr) : TT := match ifs with
  | [t] => fun σ H Q => ∀ s H0 C cl fp, tT (X.blk s H0 scope (compEnvC scope cl C X.env) fp) t σ H Q
  | _ => tYes
/-- one test, or none -/
def DC (c : Cc) (Γ : En) (ω : Ws) (ifs : List Expr) (R : Bool → Prop) : Prop := match ifs with
  | [] => R true
  | [t] => DT c Γ ω t R ω
  | _ => False
section
variable {c : Cc} {Γ Γw : En} {ω ω1 : Ws} {tg it elt : Expr} {ifs : List Expr} {scope : Scope} {own : List (Str × Nat)} {α β : Type} {W : Nat → β → Prop} {Rb : β → Sh} {R : α → Sh} {n : Nat} {pos : Pos} {J : Nat → List α → Prop}
theorem lc_core' [Cold c] {X : Cx} {F : Hp} {σ : L2.St} {B H : Hp} (fx : Fits c (Γ.map (·.1)) X) (hE : EnvOk Γ σ B) (hO : Own F ω B H) (ok : BlkOk (Γ.map (·.1)) c.sc scope own) (hw : Wip Γ own Γw) (hi : DI c Γ ω tg it n W Rb ω1) (h0 : J 0 []) (hz : n < sizeLine) (hi1 : ifs = [] ∨ ∃ t, ifs = [t])
    (hb : ∀ i y ys, i < n → W i y → J i ys → ∃ Γb ns Rt', DG ⟨c.M, relS scope c.sc, c.k, false, false⟩ tg ns (Rb y) Γw Γb ∧ (∀ x ∈ ns, x ∈ own.map (·.1)) ∧ DC ⟨c.M, relS scope c.sc, c.k, false, false⟩ Γb ω1 ifs Rt' ∧
      (Rt' true → DE ⟨c.M, relS scope c.sc, c.k, false, false⟩ Γb ω1 elt (Es (fun z => J (i + 1) (ys ++ [z])) R) ω1) ∧ (Rt' false → J (i + 1) ys))
    {Q : VK} (hQ : ∀ l ys B' H', J n ys → Ex B B' → Own F (ω1 ++ [(l, Cl R ys)]) B' H' → Q (.ref l) H') :
    tLc (tI X tg it) (gBlk X scope tg) (cBlk X scope ifs) (eBlk X scope elt) (own.map (·.2)) σ H Q := by
  refine hi X fx F σ B H hE hO _ fun It B1 H1 e1 O1 hit D hD => ?_
  have hl : σ.length = (Γ.map (·.1)).length := by rw [hE.len, List.length_map]
  refine ⟨fun i m H' => m = n - i ∧ i ≤ n ∧ ∃ ys B', ys.length ≤ i ∧ J i ys ∧ Ex B1 B' ∧ Own F (ω1 ++ [(D, Cl R ys)]) B' H', ⟨n, by simp, Nat.zero_le _, [], B1, Nat.le_refl _, h0, Ex.refl B1, O1.add hD (C := Cl R []) ⟨[], rfl, .nil⟩⟩, ?_⟩
  rintro i m H2 ⟨rfl, hin, ys, B2, hys, hJ, e2, O2⟩
  obtain ⟨q1, q2, q3⟩ := hit B2 H2 e2 O2.ex
  by_cases hlt : i < n
  · refine .inr ⟨q1 i hlt, fun H' => ∃ ys B', ys.length ≤ i + 1 ∧ J (i + 1) ys ∧ Ex B1 B' ∧ Own F (ω1 ++ [(D, Cl R ys)]) B' H', fun H' q => ⟨n - (i + 1), by omega, rfl, hlt, q⟩, fun x H3 yl => ?_⟩
    obtain ⟨y, hy, q⟩ := q3 i hlt x H3 yl
    obtain ⟨Γb, ns, Rt', hg, hs, hc, he, hf⟩ := hb i y ys hlt hy hJ
    have hEw : EnvOk Γw (wipe σ (own.map (·.2))) B2 := (hw.env fx.nd rfl ok.ix hE).mono (e1.trans e2)
    have fx' := fx.re hw.names
    -- behind the yield
    obtain ⟨B3, e3, O3, hx⟩ : ∃ B3, Ex B2 B3 ∧ Own F (ω1 ++ [(D, Cl R ys)]) B3 H3 ∧ (Rb y).p B3 x := by
      rcases q with ⟨rfl, q⟩ | ⟨T, o, hT, rfl, q⟩
      · exact ⟨B2, Ex.refl B2, O2, q⟩
      · obtain ⟨O4, e4⟩ := O2.new (o := o) hT
        exact ⟨_, e4, O4, q (O2.none_of hT).1⟩
    intro s H0 C cl fp
    refine hg.2 _ (fx'.blk s H0 scope C cl fp) _ B3 H3 x (hEw.mono e3) O3.ex hx _ fun σ2 hE2 on => ⟨wipe_only fx.nd hl ok.ix hs (by rw [hw.names] at on; exact on), ?_⟩
    have fxb : ∀ s H0 C cl fp, Fits ⟨c.M, relS scope c.sc, c.k, false, false⟩ (Γb.map (·.1)) (X.blk s H0 scope (compEnvC scope cl C X.env) fp) := fun s H0 C cl fp => (fx'.blk s H0 scope C cl fp).re hg.1
    -- the test, then the element
    have go : ∀ b B4 H4, Ex B3 B4 → Own F (ω1 ++ [(D, Cl R ys)]) B4 H4 → Rt' b → if b = true then eBlk X scope elt σ2 H4 fun y H5 => ∃ acc, H5 D = some (.lst acc) ∧ acc.length < sizeLine ∧ ∃ ys B', ys.length ≤ i + 1 ∧ J (i + 1) ys ∧ Ex B1 B' ∧ Own F (ω1 ++ [(D, Cl R ys)]) B' (upd H5 D (.lst (acc ++ [y])))
        else ∃ ys B', ys.length ≤ i + 1 ∧ J (i + 1) ys ∧ Ex B1 B' ∧ Own F (ω1 ++ [(D, Cl R ys)]) B' H4 := fun b B4 H4 e4 O4 hr => by
      cases b with
      | false => exact ⟨ys, B4, by omega, hf hr, (e2.trans e3).trans e4, O4⟩
      | true =>
        show eBlk X scope elt σ2 H4 _
        intro s H0 C cl fp
        refine he hr _ (fxb s H0 C cl fp) _ σ2 B4 H4 (hE2.mono e4) O4.focus _ fun v B5 H5 e5 O5 hv => ?_
        obtain ⟨z, hz', hv⟩ := hv
        have O6 := O4.unfocus e5 O5 rfl
        obtain ⟨_, _, o, h2, us, rfl, h3⟩ := O6.ow _ _ (List.mem_append_right _ List.mem_cons_self)
        refine ⟨us, h2, by rw [h3.len]; omega, ys ++ [z], B5, by simp; omega, hz', ((e2.trans e3).trans e4).trans e5, O6.swp swp_last ⟨_, rfl, h3.append (.cons hv .nil)⟩⟩
    rcases hi1 with rfl | ⟨t, rfl⟩
    · exact go true B3 H3 (Ex.refl B3) O3 hc
    · intro s H0 C cl fp
      refine DT.run_ hc (fxb s H0 C cl fp) hE2 O3.focus fun b B4 H4 e4 O4 hr => ?_
      exact go b B4 H4 e4 (O3.unfocus e4 O4 rfl) hr
  · have e : i = n := by omega
    subst e
    exact .inl ⟨q2, hQ D ys B2 H2 hJ (e1.trans e2) O2⟩
where
  DT.run_ {c : Cc} {Γ : En} {ω : Ws} {t : Expr} {R : Bool → Prop} (h : DT c Γ ω t R ω) {X : Cx} (fx : Fits c (Γ.map (·.1)) X) {F : Hp} {σ : L2.St} {B H : Hp} (hE : EnvOk Γ σ B) (hO : Own F ω B H) {Q : Bool → Hp → Prop} (hQ : ∀ b B' H', Ex B B' → Own F ω B' H' → R b → Q b H') : tT X t σ H Q := h X fx F σ B H hE hO Q hQ
theorem pts_blk {X : Cx} (hi1 : ifs = [] ∨ ∃ t, ifs = [t]) (s : Shared) (H0 : Hp) (C : Addr) (cl : List (Str × Addr)) (fp : List Addr) : PTs (X.blk s H0 scope (compEnvC scope cl C X.env) fp) ifs (cBlk X scope ifs) := by
  rcases hi1 with rfl | ⟨t, rfl⟩
  · exact pts_nil
  · exact pts_one ⟨fun pins s' σ H Q I h => h s H0 C cl fp pins s' I⟩
theorem n_lc [Cold c] (ok : BlkOk (Γ.map (·.1)) c.sc scope own) (hw : Wip Γ own Γw) (hi : DI c Γ ω tg it n W Rb ω1) (J : Nat → List α → Prop) (h0 : J 0 []) (hz : n < sizeLine) (hi1 : ifs = [] ∨ ∃ t, ifs = [t])
    (hb : ∀ i y ys, i < n → W i y → J i ys → ∃ Γb ns Rt', DG ⟨c.M, relS scope c.sc, c.k, false, false⟩ tg ns (Rb y) Γw Γb ∧ (∀ x ∈ ns, x ∈ own.map (·.1)) ∧ DC ⟨c.M, relS scope c.sc, c.k, false, false⟩ Γb ω1 ifs Rt' ∧
      (Rt' true → DE ⟨c.M, relS scope c.sc, c.k, false, false⟩ Γb ω1 elt (Es (fun z => J (i + 1) (ys ++ [z])) R) ω1) ∧ (Rt' false → J (i + 1) ys))
    (hs : ∀ env x, foldedSetIterable it env x = pure x := by intro _ _; rfl) : DNE c Γ ω (.ListComp elt [⟨tg, it, ifs, 0⟩] scope pos) (J n) R ω1 := by
  intro X fx F σ B H hE hO Q hQ
  refine tW.of (pe_lc (own := own) fx.calm (by rw [fx.ns]; exact fx.nd) pi_w (by rw [fx.ns, fx.sc]; exact ok) (g := gBlk X scope tg) (te := eBlk X scope elt) (fun s H0 C cl fp => ⟨fun pins s' σ H v u Q I r h => h s H0 C cl fp pins s' u I r⟩) (fun s H0 C cl fp => pts_blk hi1 s H0 C cl fp)
    (fun s H0 C cl fp => ⟨fun pins s' σ H Q I h => h s H0 C cl fp pins s' I⟩) (hs _)) ?_
  exact lc_core' fx hE hO ok hw hi h0 hz hi1 hb hQ
/-- [f(x) for x in ..]: what stands at each place is known -/
theorem n_lcM [Cold c] (ok : BlkOk (Γ.map (·.1)) c.sc scope own) (hw : Wip Γ own Γw) (hi : DI c Γ ω tg it n W Rb ω1) (zs : List α) (hn : zs.length = n) (hz : n < sizeLine)
    (hb : ∀ i y z, W i y → zs[i]? = some z → ∃ Γb ns, DG ⟨c.M, relS scope c.sc, c.k, false, false⟩ tg ns (Rb y) Γw Γb ∧ (∀ x ∈ ns, x ∈ own.map (·.1)) ∧ DE ⟨c.M, relS scope c.sc, c.k, false, false⟩ Γb ω1 elt (R z) ω1)
    (hs : ∀ env x, foldedSetIterable it env x = pure x := by intro _ _; rfl) : DN c Γ ω (.ListComp elt [⟨tg, it, [], 0⟩] scope pos) R zs ω1 := by
  refine DNE.dn ?_
  have h := n_lc (R := R) (pos := pos) (ifs := []) (elt := elt) ok hw hi (fun i ys => ys = zs.take i) (by simp) hz (.inl rfl) (fun i y ys hi hy hJ => ?_) hs
  · have e : (fun ys : List α => ys = zs.take n) = (· = zs) := by
      funext ys
      rw [List.take_of_length_le (by omega)]
    rw [e] at h
    exact h
  · have hz : zs[i]? = some zs[i] := List.getElem?_eq_getElem (by omega)
    obtain ⟨Γb, ns, hg, hs, he⟩ := hb i y _ hy hz
    refine ⟨Γb, ns, (· = true), hg, hs, rfl, fun _ => he.wide fun B v q => ⟨zs[i], ?_, q⟩, fun z => nomatch z⟩
    rw [hJ, List.take_add_one, hz]
    rfl
end
/-! ### y = [..] on one line -/
section
variable {c : Cc} {X : Cx} {B0 F : Hp} {D : Ends} {Γ Γw Γ0 : En} {ω ω1 : Ws} {tg it elt : Expr} {ifs : List Expr} {scope : Scope} {own : List (Str × Nat)} {α β : Type} {W : Nat → β → Prop} {Rb : β → Sh} {R : α → Sh} {n : Nat} {pos spos py : Pos} {y : Str} {rest : List Stmt}
theorem ds_lc [Cold c] (ok : BlkOk (Γ.map (·.1)) c.sc scope own) (hw : Wip Γ own Γw) (hi : DI c Γ ω tg it n W Rb ω1) (J : Nat → List α → Prop) (h0 : J 0 []) (hz : n < sizeLine) (hi1 : ifs = [] ∨ ∃ t, ifs = [t])
    (hb : ∀ i y ys, i < n → W i y → J i ys → ∃ Γb ns Rt', DG ⟨c.M, relS scope c.sc, c.k, false, false⟩ tg ns (Rb y) Γw Γb ∧ (∀ x ∈ ns, x ∈ own.map (·.1)) ∧ DC ⟨c.M, relS scope c.sc, c.k, false, false⟩ Γb ω1 ifs Rt' ∧
      (Rt' true → DE ⟨c.M, relS scope c.sc, c.k, false, false⟩ Γb ω1 elt (Es (fun z => J (i + 1) (ys ++ [z])) R) ω1) ∧ (Rt' false → J (i + 1) ys))
    (hp : Put Γ y none Γ0) (k : ∀ l ys, J n ys → ∃ Γ1, Put Γ y (some (At l)) Γ1 ∧ DS c X B0 F D Γ1 (ω1 ++ [(l, Cl R ys)]) rest)
    (hyl : c.sc.names.lookup y = some .local := by exact rfl) (hk : c.sc.kind = .function := by exact rfl) (hln : (py.line == spos.line) = true := by rfl) (hpl : (py.line == pos.line) = true := by rfl) (ha : (scope.names.any fun (n, k) => n == y && (k == .local || k == .cell)) = false := by decide +kernel)
    (hs : ∀ env x, foldedSetIterable it env x = pure x := by intro _ _; rfl) : DS c X B0 F D Γ ω (.Assign [.Name y py] (.ListComp elt [⟨tg, it, ifs, 0⟩] scope pos) spos :: rest) := by
  intro fx σ B H hB hE hO
  obtain ⟨j, hj⟩ := hp.ix
  refine tS.cons (ps_setLc (i := j) (own := own) fx.calm (by rw [fx.ns]; exact fx.nd) (by rw [fx.ns]; exact hj) (by rw [fx.sc]; exact hyl) (sw_true (by rw [fx.sc]; exact hk) (by rw [fx.sc]; exact hyl) hpl ha) pi_w (by rw [fx.ns, fx.sc]; exact ok) (g := gBlk X scope tg) (te := eBlk X scope elt)
    (fun s H0 C cl fp => ⟨fun pins s' σ H v u Q I r h => h s H0 C cl fp pins s' u I r⟩) (fun s H0 C cl fp => pts_blk hi1 s H0 C cl fp) (fun s H0 C cl fp => ⟨fun pins s' σ H Q I h => h s H0 C cl fp pins s' I⟩) (hs _)) ?_
  refine lc_core' fx hE hO ok hw hi h0 hz hi1 hb fun l ys B1 H1 hJ e1 O1 => ?_
  obtain ⟨Γ1, hp1, k⟩ := k l ys hJ
  obtain ⟨j', h1, h2⟩ := hp1.set
  have e : j' = j := nodup_ix fx.nd h1 hj
  subst e
  exact k (fx.re hp1.names) _ B1 H1 (hB.trans e1) (h2 _ _ _ (hE.mono e1) rfl) O1
end
end ZZ

set_option maxHeartbeats 2000000
/-! Z7: a def that is there, tables, places, records of owned cells. -/
namespace ZZ
open PySem PySem.Spec PyProof.Rows L2
open Evl (Ex)

/-- the def of the text st stands at the module's name x -/
def Pr (M : Mo) (x : Str) (st : Stmt) (ps : List Str) : Prop := ∃ (f : Addr) (fd : FuncData), Fun M.K x x st f fd ∧ M.mg x = some (.ref f) ∧ Binds M.K fd ps []
theorem Pr.gd {τ : Type} {t : Ct τ} {M : Mo} {k : Nat} {x : Str} {st : Stmt} {N ps : List Str} (P : Pr M x st ps) (S : FnScope N ps (defScope st)) (hlen : ∀ g, (t.As g).length = ps.length)
    (hbody : ∀ (X : Cx) (B0 F0 : Hp) (D : Ends) (g : τ), t.pre g → Rt B0 F0 D.rt (t.S g) (t.ω' g) → (∀ σ H, D.rt .non H → D.nx σ H) → DS ⟨M, defScope st, k, true, false⟩ X B0 F0 D (mkΓ N (t.As g)) (t.ω g) (defBody st)) : Gd M (k + 1) x ps t := by
  obtain ⟨f, fd, F, hm, hb⟩ := P
  exact gd_of F S hm hb hlen hbody
theorem Gd.mono {τ : Type} {t : Ct τ} {M : Mo} {j k : Nat} {x : Str} {ps : List Str} (G : Gd M j x ps t) (h : j ≤ k) : Gd M k x ps t := by
  obtain ⟨f, fd, F, a, b, c⟩ := G
  exact ⟨f, fd, F.mono h, a, b, c⟩
/-- the built-ins' names that the module leaves alone -/
structure Blt (M : Mo) : Prop where
  len : M.mg "len" = none
  sum : M.mg "sum" = none
  max : M.mg "max" = none
  min : M.mg "min" = none
  range : M.mg "range" = none
  enumerate : M.mg "enumerate" = none
  zip : M.mg "zip" = none
  int : M.mg "int" = none
  bool : M.mg "bool" = none
  str : M.mg "str" = none
  isinstance : M.mg "isinstance" = none
  list : M.mg "list" = none
  tuple : M.mg "tuple" = none
  sorted : M.mg "sorted" = none

/-! ### tables and places -/
/-- the list f 0, .., f (n - 1) -/
def tab {α : Type} (f : Nat → α) (n : Nat) : List α := (List.range n).map f
theorem tab_len {α : Type} {f : Nat → α} {n : Nat} : (tab f n).length = n := by simp [tab]
theorem tab_succ {α : Type} {f : Nat → α} {n : Nat} : tab f (n + 1) = tab f n ++ [f n] := by simp [tab, List.range_succ]
theorem tab_get {α : Type} {f : Nat → α} {n i : Nat} (h : i < n) : (tab f n)[i]? = some (f i) := by
  unfold tab
  rw [List.getElem?_map, List.getElem?_range h]; rfl
theorem tab_get' {α : Type} {f : Nat → α} {n i : Nat} {y : α} (h : (tab f n)[i]? = some y) : i < n ∧ y = f i := by
  have hi : i < n := by
    have := (List.getElem?_eq_some_iff.mp h).1
    rwa [tab_len] at this
  rw [tab_get hi] at h
  exact ⟨hi, (Option.some.inj h).symm⟩
theorem tab_ext {α : Type} {f g : Nat → α} {n : Nat} (h : ∀ i, i < n → f i = g i) : tab f n = tab g n := by
  unfold tab
  exact List.map_congr_left fun i hi => h i (List.mem_range.mp hi)
theorem tab_set {α : Type} {f : Nat → α} {n j : Nat} {v : α} : (tab f n).set j v = tab (fun i => if i = j then v else f i) n := by
  refine List.ext_getElem? fun i => ?_
  by_cases hi : i < n
  · rw [tab_get hi]
    by_cases e : j = i
    · subst e
      rw [List.getElem?_set_self (by rw [tab_len]; exact hi), if_pos rfl]
    · rw [List.getElem?_set_ne e, tab_get hi, if_neg (fun z => e z.symm)]
  · rw [List.getElem?_eq_none (by rw [List.length_set, tab_len]; omega), List.getElem?_eq_none (by rw [tab_len]; omega)]
theorem atI_of {α : Type} {xs : List α} {k : Int} {j : Nat} {v : α} (hk : k = (j : Int)) (h : xs[j]? = some v) : L2.atI xs k = some v := by
  subst hk
  exact atI_nat h
theorem atI_neg {α : Type} {xs : List α} {k : Int} {j : Nat} {v : α} (hk : k = (j : Int) - (xs.length : Int)) (hj : j < xs.length) (h : xs[j]? = some v) : L2.atI xs k = some v := by
  have e : ixN xs.length k = some j := by
    unfold ixN
    rw [if_neg (by omega), if_pos (by omega)]
    congr 1
    omega
  unfold L2.atI
  rw [e]
  exact h
theorem ixN_of {n : Nat} {k : Int} {j : Nat} (hk : k = (j : Int)) (hj : j < n) : ixN n k = some j := by
  unfold ixN
  rw [if_pos (by omega), if_pos (by omega)]
  congr 1
  omega
section
variable {c : Cc} {Γ : En} {ω ω1 ω2 ω3 : Ws} {a b e : Expr} {pos p : Pos} {α : Type} {Rs : α → Sh} {xs : List α} {bb : Bool} {k : Int} {f : Nat → α} {n : Nat} {l : Addr} {S T : Sh}
/-- a[i] of a table -/
theorem d_ixT (ha : DE c Γ ω a (Sq bb Rs (tab f n)) ω1) (hb : DE c Γ ω1 b (I k) ω2) (j : Nat) (hk : k = (j : Int)) (hj : j < n) (hs : PlainIx b := by exact fun _ _ => rfl) : DE c Γ ω (.Subscript a b pos) (Rs (f j)) ω2 :=
  d_ix ha hb (atI_of hk (tab_get hj)) hs
theorem d_ixTO (ha : DE c Γ ω a (At l) ω1) (hb : DE c Γ ω1 b (I k) ω2) (hm : Hold ω2 l (Cl Rs (tab f n))) (j : Nat) (hk : k = (j : Int)) (hj : j < n) (hs : PlainIx b := by exact fun _ _ => rfl) : DE c Γ ω (.Subscript a b pos) (Rs (f j)) ω2 :=
  d_ixO ha hb hm (atI_of hk (tab_get hj)) hs
/-- the last one -/
theorem d_ixL (ha : DE c Γ ω a (At l) ω1) (hb : DE c Γ ω1 b (I (-1)) ω2) (hm : Hold ω2 l (Cl Rs (tab f (n + 1)))) (hs : PlainIx b := by exact fun _ _ => rfl) : DE c Γ ω (.Subscript a b pos) (Rs (f n)) ω2 :=
  d_ixO ha hb hm (by rw [tab_succ]; exact atI_last _ _) hs
theorem DE.eqI {i j : Int} (h : DE c Γ ω e (I i) ω1) (q : i = j) : DE c Γ ω e (I j) ω1 := q ▸ h
theorem DE.eqS {S T : Sh} (h : DE c Γ ω e S ω1) (q : S = T) : DE c Γ ω e T ω1 := q ▸ h

/-! ### owned cells of several kinds; owned cells of which something is known -/
def Cu (ss : List Sh) : Co := ⟨fun B o => ∃ vs, o = .lst vs ∧ All2 (fun v (s : Sh) => s.p B v) vs ss, fun e h => let ⟨vs, h1, h2⟩ := h; ⟨vs, h1, h2.mp fun _ s q => s.mono e q⟩⟩
def Ce {β : Type} (P : β → Prop) (C : β → Co) : Co := ⟨fun B o => ∃ x, P x ∧ (C x).p B o, fun e h => let ⟨x, h1, h2⟩ := h; ⟨x, h1, (C x).mono e h2⟩⟩
theorem d_ixOU {ss : List Sh} (ha : DE c Γ ω a (At l) ω1) (hb : DE c Γ ω1 b (I k) ω2) (hm : Hold ω2 l (Cu ss)) (h : L2.atI ss k = some S) (hs : PlainIx b := by exact fun _ _ => rfl) : DE c Γ ω (.Subscript a b pos) S ω2 := by
  intro X fx F σ B H hE hO Q hQ
  refine tW.of (pe_ix ix_list pe_w pe_w hs) ?_
  refine ha X fx F σ B H hE hO _ fun v B1 H1 e1 O1 p1 => ?_
  refine hb X fx F σ B1 H1 (hE.mono e1) O1 _ fun u B2 H2 e2 O2 p2 => ?_
  obtain ⟨_, _, o, h2, vs, rfl, h3⟩ := O2.ow _ _ hm.mem
  obtain ⟨z, q1, q2⟩ := h3.atI h
  exact ⟨l, vs, k, z, p1, p2, SqL.of h2, q1, hQ z B2 H2 (e1.trans e2) O2 q2⟩
end
section
variable {c : Cc} {X : Cx} {B0 F : Hp} {D : Ends} {Γ Γ1 : En} {ω ω1 ω2 ω3 ωo : Ws} {S T : Sh} {e o i : Expr} {rest sts : List Stmt} {pos p : Pos} {l : Addr}
theorem ds_setU {ss : List Sh} {kk : Int} {j : Nat} (he : DE c Γ ω e S ω1) (ho : DE c Γ ω1 o (At l) ω2) (hi : DE c Γ ω2 i (I kk) ω3) (hj : ixN ss.length kk = some j) (hs : Swp ω3 l (Cu ss) (Cu (ss.set j S)) ωo) (k : DS c X B0 F D Γ ωo rest)
    (hss : ∀ env, swapsWithSole [.Subscript o i p] e pos.line env = pure false := by intro _; rfl) (hw : ∀ env, swappedStores [.Subscript o i p] e env = pure none := by intro _; rfl)
    (ha : ∀ env v, assign (.Subscript o i p) env v = (do
      let ov ← holding [v] (eval o env)
      let iv ← holding [v, ov] (eval i env)
      standAt p
      holding [v, ov, iv] (setItem ov iv v)
      release [v, ov, iv] []) := by intro _ _; rfl) : DS c X B0 F D Γ ω (.Assign [.Subscript o i p] e pos :: rest) := by
  intro fx σ B H hB hE hO
  refine tS.cons (ps_asg pe_w (pg_sub pe_w pe_w set_list (ha _)) (hss _) (hw _) (by rfl)) ?_
  refine he X fx F σ B H hE hO _ fun v B1 H1 e1 O1 p1 => ?_
  refine ho X fx F σ B1 H1 (hE.mono e1) O1 _ fun v2 B2 H2 e2 O2 p2 => ?_
  refine hi X fx F σ B2 H2 (hE.mono (e1.trans e2)) O2 _ fun v3 B3 H3 e3 O3 p3 => ?_
  obtain ⟨_, _, o', h2, us, rfl, h3⟩ := O3.ow _ _ hs.mem
  refine ⟨l, us, kk, j, p2, p3, h2, by rw [h3.len]; exact hj, ?_⟩
  exact k fx σ B3 _ (((hB.trans e1).trans e2).trans e3) (hE.mono ((e1.trans e2).trans e3)) (O3.swp hs ⟨_, rfl, All2.set (R := fun v (s : Sh) => s.p B3 v) (S.mono (e2.trans e3) p1) j h3⟩)
/-- what is known of an owned cell is opened -/
theorem swp_own {F B H : Hp} {ω ω' : Ws} {l : Addr} {C C' : Co} (O : Own F ω B H) (s : Swp ω l C C' ω') (h : ∀ o, H l = some o → C'.p B o) : Own F ω' B H := by
  obtain ⟨_, _, o, h2, _⟩ := O.ow _ _ s.mem
  have e : upd H l o = H := by
    funext b
    by_cases z : b = l
    · subst z; rw [upd_same, h2]
    · rw [upd_ne z]
  have q := O.swp (o := o) s (h o h2)
  rw [e] at q
  exact q
theorem ds_open {β : Type} {P : β → Prop} {C : β → Co} {ω' : β → Ws} (hs : ∀ x, Swp ω l (Ce P C) (C x) (ω' x)) (k : ∀ x, P x → DS c X B0 F D Γ (ω' x) sts) (hn : Nonempty β) : DS c X B0 F D Γ ω sts := by
  intro fx σ B H hB hE hO
  obtain ⟨x0⟩ := hn
  obtain ⟨_, _, o, h2, x, hx, h3⟩ := hO.ow _ _ (hs x0).mem
  exact k x hx fx σ B H hB hE (swp_own hO (hs x) fun o' e => by rw [h2] at e; cases e; exact h3)
theorem ds_close {C C' : Co} {ω' : Ws} (hs : Swp ω l C C' ω') (hc : ∀ B o, C.p B o → C'.p B o) (k : DS c X B0 F D Γ ω' sts) : DS c X B0 F D Γ ω sts := by
  intro fx σ B H hB hE hO
  obtain ⟨_, _, o, h2, h3⟩ := hO.ow _ _ hs.mem
  exact k fx σ B H hB hE (swp_own hO hs fun o' e => by rw [h2] at e; cases e; exact hc _ _ h3)
end
/-- a shape that is known up to a word is opened -/
inductive UpE {α : Type} (P : α → Prop) (Rs : α → Sh) : En → Str → (α → En) → Prop
  | z {Γ x} : UpE P Rs ((x, some (Es P Rs)) :: Γ) x (fun y => (x, some (Rs y)) :: Γ)
  | s {Γ e x Γ'} : UpE P Rs Γ x Γ' → UpE P Rs (e :: Γ) x (fun y => e :: Γ' y)
theorem UpE.names {α : Type} {P : α → Prop} {Rs : α → Sh} {Γ : En} {x : Str} {Γ' : α → En} (h : UpE P Rs Γ x Γ') (y : α) : (Γ' y).map (·.1) = Γ.map (·.1) := by
  induction h with
  | z => rfl
  | s _ ih => simp [ih]
theorem UpE.env {α : Type} {P : α → Prop} {Rs : α → Sh} {x : Str} {B : Hp} : ∀ {Γ : En} {Γ' : α → En} {σ : L2.St}, UpE P Rs Γ x Γ' → EnvOk Γ σ B → ∃ y, P y ∧ EnvOk (Γ' y) σ B
  | _, _, [], .z, h => h.elim
  | _, _, _ :: _, .z, h => by
    obtain ⟨⟨v, h1, y, h2, h3⟩, h4⟩ := h
    exact ⟨y, h2, ⟨v, h1, h3⟩, h4⟩
  | (_, none) :: _, _, [], .s _, h => h.elim
  | (_, some _) :: _, _, [], .s _, h => h.elim
  | (_, none) :: _, _, _ :: σ, .s q, h => by
    obtain ⟨y, h1, h2⟩ := q.env (σ := σ) h
    exact ⟨y, h1, h2⟩
  | (_, some _) :: _, _, _ :: σ, .s q, h => by
    obtain ⟨y, h1, h2⟩ := q.env (σ := σ) h.2
    exact ⟨y, h1, h.1, h2⟩
theorem ds_openE {c : Cc} {X : Cx} {B0 F : Hp} {D : Ends} {Γ : En} {ω : Ws} {sts : List Stmt} {α : Type} {P : α → Prop} {Rs : α → Sh} {x : Str} {Γ' : α → En} (hu : UpE P Rs Γ x Γ') (k : ∀ y, P y → DS c X B0 F D (Γ' y) ω sts) : DS c X B0 F D Γ ω sts := by
  intro fx σ B H hB hE hO
  obtain ⟨y, hy, hE'⟩ := hu.env hE
  exact k y hy (fx.re (hu.names y)) σ B H hB hE' hO
end ZZ

set_option maxHeartbeats 2000000
/-! Z8: small forms for printed derivations. -/
namespace ZZ
open PySem PySem.Spec PyProof.Rows L2
open Evl (Ex)
section
variable {c : Cc} {X : Cx} {B0 F : Hp} {D : Ends} {Γ Γ0 Γ1 : En} {ω ω1 : Ws} {e it tg : Expr} {es : List Expr} {S T : Sh} {pos p pos' : Pos} {rest body : List Stmt} {α β : Type} {Rs : α → Sh} {Rb : β → Sh} {W : Nat → β → Prop} {xs : List α} {x : Str} {n : Nat}
theorem ds_ret0 (hR : Rt B0 F D.rt T []) (he : DE c Γ ω e S ω1) (q : S = T := by rfl) : DS c X B0 F D Γ ω (.Return (some e) pos :: rest) := ds_ret (ωo := []) (ω1 := ω1) hR he (q ▸ Sle.refl)
/-- a list display whose shapes are those of the list xs -/
theorem n_lstQ {ss : List Sh} (Rs : α → Sh) (xs : List α) (h : DA c Γ ω es ss ω1) (q : ss = xs.map Rs := by rfl) (hl : xs.length ≤ sizeLine := by show _ ≤ 16777216; simp [tab]) : DN c Γ ω (.List es pos) Rs xs ω1 := n_lst (q ▸ h) hl
theorem d_lstQ {ss : List Sh} (Rs : α → Sh) (xs : List α) (h : DA c Γ ω es ss ω1) (q : ss = xs.map Rs := by rfl) (hl : xs.length ≤ sizeLine := by show _ ≤ 16777216; simp [tab]) : DE c Γ ω (.List es pos) (L Rs xs) ω1 := d_lst (q ▸ h) hl
theorem ds_own0 (he : DN c Γ ω e Rs xs []) (hn : Put Γ x none Γ0) (k : ∀ l, ∃ Γ1, Put Γ x (some (At l)) Γ1 ∧ DS c X B0 F D Γ1 [(l, Cl Rs xs)] rest) (hl : Lo c x := by first | exact Or.inl rfl | exact Or.inr ⟨rfl, rfl⟩) (hs : ∀ env, swapsWithSole [.Name x p] e pos.line env = pure false := by intro _; rfl) : DS c X B0 F D Γ ω (.Assign [.Name x p] e pos :: rest) := ds_own he hn k hl hs
theorem ds_own1 {w : Addr × Co} (he : DN c Γ ω e Rs xs [w]) (hn : Put Γ x none Γ0) (k : ∀ l, ∃ Γ1, Put Γ x (some (At l)) Γ1 ∧ DS c X B0 F D Γ1 [w, (l, Cl Rs xs)] rest) (hl : Lo c x := by first | exact Or.inl rfl | exact Or.inr ⟨rfl, rfl⟩) (hs : ∀ env, swapsWithSole [.Name x p] e pos.line env = pure false := by intro _; rfl) : DS c X B0 F D Γ ω (.Assign [.Name x p] e pos :: rest) := ds_own he hn k hl hs
theorem ds_own2 {w u : Addr × Co} (he : DN c Γ ω e Rs xs [w, u]) (hn : Put Γ x none Γ0) (k : ∀ l, ∃ Γ1, Put Γ x (some (At l)) Γ1 ∧ DS c X B0 F D Γ1 [w, u, (l, Cl Rs xs)] rest) (hl : Lo c x := by first | exact Or.inl rfl | exact Or.inr ⟨rfl, rfl⟩) (hs : ∀ env, swapsWithSole [.Name x p] e pos.line env = pure false := by intro _; rfl) : DS c X B0 F D Γ ω (.Assign [.Name x p] e pos :: rest) := ds_own he hn k hl hs
theorem ds_appQ {apos cpos : Pos} {o : Expr} {l : Addr} {ω2 : Ws} {S : Sh} (Rs : α → Sh) (y : α) (ho : DE c Γ ω o (At l) ω) (he : DE c Γ ω e S ω1) (q : S = Rs y) (hm : Hold ω l (Cl Rs xs)) (hs : Swp ω1 l (Cl Rs xs) (Cl Rs (xs ++ [y])) ω2) (hl : xs.length < sizeLine) (k : DS c X B0 F D Γ ω2 rest)
    (hbase : ∀ env, attributeBase o "append" env (eval o env) = eval o env := by intro _; rfl)
    (hfew : ∀ env, ((backTo cpos (starEach [e] env)).all (fun x => !x.1) && (backToKw cpos (keywordEach [] env)).all (fun x => x.1.isSome) && decide ([e].length + ([] : List Keyword).length + (if ([] : List Keyword).isEmpty then 0 else 1) < 30)) = true := by intro _; rfl)
    (hline : (apos.endLine == cpos.line) = true := by rfl) (hst : ∀ env, starEach [e] env = (false, eval e env) :: starEach [] env := by intro _; rfl) (hsw : ∀ env, swapsWith (.Call (.Attribute o "append" apos) [e] [] cpos) none pos.line env = pure false := by intro _; rfl) :
    DS c X B0 F D Γ ω (.Expr (.Call (.Attribute o "append" apos) [e] [] cpos) pos :: rest) := ds_app ho (q ▸ he) hm hs hl k hbase hfew hline hst hsw
theorem ds_ifT {k : Bool} {t : Expr} {a b : List Stmt} (ht : DT c Γ ω t (· = k) ω1) (hk : k = true) (ha : DS c X B0 F { D with nx := tS X rest D } Γ ω1 a) : DS c X B0 F D Γ ω (.If t a b pos :: rest) := ds_if ht (fun _ => ha) (fun h => absurd (h.trans hk) (by decide))
theorem ds_ifF {k : Bool} {t : Expr} {a b : List Stmt} (ht : DT c Γ ω t (· = k) ω1) (hk : k = false) (ha : DS c X B0 F { D with nx := tS X rest D } Γ ω1 b) : DS c X B0 F D Γ ω (.If t a b pos :: rest) := ds_if ht (fun h => absurd (h.trans hk) (by decide)) (fun _ => ha)
/-- names and cells by the turn -/
def lp (f : Nat → En) (g : Nat → Ws) (i : Nat) : En → Ws → Prop := fun Γ ω => Γ = f i ∧ ω = g i
theorem ds_forF [Cold c] (f : Nat → En) (g : Nat → Ws) (hi : DI c Γ ω tg it n W Rb ω1) (hf : Fg Γ (f 0)) (h0 : ω1 = g 0)
    (hb : ∀ B1, Ex B0 B1 → ∀ i y, i < n → W i y → ∃ Γb ns, DG c tg ns (Rb y) (f i) Γb ∧ DS c X B1 F { D with nx := Jn (Γ.map (·.1)) B1 F (lp f g (i + 1)), ct := Jn (Γ.map (·.1)) B1 F (lp f g (i + 1)), bk := tS X rest D } Γb (g i) body)
    (hd : DS c X B0 F D (f n) (g n) rest) (hs : ∀ env x, foldedSetIterable it env x = pure x := by intro _ _; rfl) : DS c X B0 F D Γ ω (.For tg it body [] pos :: rest) := by
  refine ds_for (fun i => lp f g i) hi hf ⟨rfl, h0⟩ ?_ ?_ hs
  · rintro B1 hB1 i y _ _ hi hW ⟨rfl, rfl⟩ _
    exact hb B1 hB1 i y hi hW
  · rintro _ _ ⟨rfl, rfl⟩ _
    exact hd
theorem ds_turnJ {J : En → Ws → Prop} {N : List Str} (f : Fg Γ Γ1) (h : J Γ1 ω) (hN : N = Γ.map (·.1)) (hx : D.nx = Jn N B0 F J) : DS c X B0 F D Γ ω [] := ds_turn (nx := D.nx) f h hN hx
theorem ds_turnF {f : Nat → En} {g : Nat → Ws} {k : Nat} {N : List Str} (ff : Fg Γ (f k)) (hω : ω = g k) (hN : N = Γ.map (·.1)) (hx : D.nx = Jn N B0 F (lp f g k)) : DS c X B0 F D Γ ω [] := ds_turn (nx := D.nx) ff ⟨rfl, hω⟩ hN hx
theorem ds_contF {f : Nat → En} {g : Nat → Ws} {k : Nat} {N : List Str} (ff : Fg Γ (f k)) (hω : ω = g k) (hN : N = Γ.map (·.1)) (hx : D.ct = Jn N B0 F (lp f g k)) : DS c X B0 F D Γ ω (.Continue pos :: rest) :=
  ds_cont fun σ B H hB hE hO => by
    rw [hx]
    exact ⟨f k, g k, B, ⟨rfl, rfl⟩, by rw [ff.names, hN], hB, ff.env hE, hω ▸ hO⟩
theorem d_call0 [Cold c] {τ : Type} {t : Ct τ} {k : Nat} {ps : List Str} {ss : List Sh} (g : τ) (G : Gd c.M k x ps t) (hk : k ≤ c.k) (ha : DA c Γ ω (e :: es) ss ω1) (hs : ss = t.As g) (hp : t.pre g) (h0 : t.ω g = [] := by rfl) (h1 : t.ω' g = [] := by rfl)
    (hg : Glo c.sc x := by exact rfl) (hdb : (x == ("__debug__" : Str)) = false := by decide) (he : ∀ env, starEach (e :: es) env = (false, eval e env) :: starEach es env := by intro _; rfl) (hpl : ∀ env, (backTo pos (starEach es env)).any (·.1) = false := by intro _; rfl) :
    DE c Γ ω (.Call (.Name x p) (e :: es) [] pos) (t.S g) ω1 := by
  have h := d_call (p := p) (pos := pos) (rest := ω1) g G hk ha hs hp (by rw [h0]; rfl) hg hdb he hpl
  rw [h1] at h
  exact h
end
theorem tS.nx {X : Cx} {sts : List Stmt} {D : Ends} {nx : L2.St → Hp → Prop} {σ : L2.St} {H : Hp} (h : tS X sts { D with nx := nx } σ H) (k : ∀ σ H, nx σ H → D.nx σ H) : tS X sts D σ H := fun pins s I => thn (h pins s I) fun f s' q => by
  cases f with
  | next => obtain ⟨σ', H', I', q⟩ := q; exact ⟨σ', H', I', k _ _ q⟩
  | brk => exact q
  | cont => exact q
  | ret u => exact q
/-- an if whose branches meet again -/
theorem ds_ifJ {c : Cc} {X : Cx} {B0 F : Hp} {D : Ends} {Γ : En} {ω ω1 : Ws} {t : Expr} {a b rest : List Stmt} {pos : Pos} {R : Bool → Prop} (Γj : En) (ωj : Ws) (hN : Γj.map (·.1) = Γ.map (·.1)) (ht : DT c Γ ω t R ω1)
    (ha : R true → DS c X B0 F { D with nx := Jn (Γ.map (·.1)) B0 F (lp (fun _ => Γj) (fun _ => ωj) 0) } Γ ω1 a) (hb : R false → DS c X B0 F { D with nx := Jn (Γ.map (·.1)) B0 F (lp (fun _ => Γj) (fun _ => ωj) 0) } Γ ω1 b) (hk : DS c X B0 F D Γj ωj rest) : DS c X B0 F D Γ ω (.If t a b pos :: rest) := by
  have key : ∀ (sts : List Stmt), (DS c X B0 F { D with nx := Jn (Γ.map (·.1)) B0 F (lp (fun _ => Γj) (fun _ => ωj) 0) } Γ ω1 sts) → DS c X B0 F { D with nx := tS X rest D } Γ ω1 sts := fun sts h fx σ B H hB hE hO =>
    tS.nx (D := { D with nx := tS X rest D }) (h fx σ B H hB hE hO) fun σ' H' q => by
      obtain ⟨Γi, ωi, B', ⟨rfl, rfl⟩, q1, q2, q3, q4⟩ := q
      exact hk (fx.re q1) σ' B' H' q2 q3 q4
  exact ds_if ht (fun h => key _ (ha h)) (fun h => key _ (hb h))
theorem ds_meet {c : Cc} {X : Cx} {B0 F : Hp} {D : Ends} {Γ Γj : En} {ω ωj : Ws} {N : List Str} (ff : Fg Γ Γj) (hω : ω = ωj) (hN : N = Γ.map (·.1)) (hx : D.nx = Jn N B0 F (lp (fun _ => Γj) (fun _ => ωj) 0)) : DS c X B0 F D Γ ω [] := ds_turnJ ff ⟨rfl, hω⟩ hN hx
theorem DT.eqB {c : Cc} {Γ : En} {ω ω1 : Ws} {e : Expr} {k l : Bool} (h : DT c Γ ω e (· = k) ω1) (q : k = l) : DT c Γ ω e (· = l) ω1 := q ▸ h
theorem All2.comp {vs : List V} {B : Hp} : ∀ {ss ts : List Sh} {vs : List V}, All2 (fun v (s : Sh) => s.p B v) vs ss → All2 Sle ss ts → All2 (fun v (s : Sh) => s.p B v) vs ts
  | _, _, _, .nil, .nil => .nil
  | _, _, _, .cons h t, .cons q u => .cons (q _ _ h) (t.comp (vs := vs) u)
/-- a contract read as another one -/
theorem Gd.pull {τ τ' : Type} {t : Ct τ} {t' : Ct τ'} {M : Mo} {k : Nat} {x : Str} {ps : List Str} (G : Gd M k x ps t) (f : τ' → τ) (hAs : ∀ g, t'.pre g → All2 Sle (t'.As g) (t.As (f g))) (hp : ∀ g, t'.pre g → t.pre (f g)) (hω : ∀ g, t'.ω g = t.ω (f g)) (hω' : ∀ g, t'.ω' g = t.ω' (f g)) (hS : ∀ g, t'.pre g → Sle (t.S (f g)) (t'.S g)) : Gd M k x ps t' := by
  obtain ⟨fa, fd, h, q⟩ := G
  refine ⟨fa, fd, h.imp fun vs H Q E z => ?_, q⟩
  obtain ⟨g, F, B, z1, z2, z3, z4⟩ := z
  exact ⟨f g, F, B, hp g z1, z2.comp (vs := vs) (hAs g z1), (hω g) ▸ z3, fun v B' H' e O p => z4 v B' H' e ((hω' g).symm ▸ O) (hS g z1 _ _ p)⟩
theorem nonb_I {i : Int} : NonB (I i) false := fun B v h => by rw [show v = V.int i from h]; rfl
theorem nonb_No : NonB No true := fun B v h => by rw [show v = V.non from h]; rfl
theorem nonb_Bo {k : Bool} : NonB (Bo k) false := fun B v h => by rw [show v = V.bl k from h]; rfl
theorem nonb_S {s : Str} : NonB (Tx s) false := fun B v h => by rw [show v = V.str s from h]; rfl
/-- none or a number, none or a pair -/
def Op : Option Int → Sh
  | none => No
  | some x => I x
def P2 (x : Int × Int) : Sh := U [I x.1, I x.2]
def Opp : Option (Int × Int) → Sh
  | none => No
  | some x => P2 x
theorem sle_tup {α : Type} {R : α → Sh} {xs : List α} : Sle (U (xs.map R)) (Sq false R xs) := fun B v h => by
  obtain ⟨a, vs, rfl, h1, h2⟩ := h
  refine ⟨a, vs, rfl, h1, ?_⟩
  clear h1
  induction xs generalizing vs with
  | nil => cases h2; exact .nil
  | cons x xs ih => cases h2 with | cons p q => exact .cons p (ih _ q)
theorem sle_tup' {α : Type} {R : α → Sh} {xs : List α} : Sle (Sq false R xs) (U (xs.map R)) := fun B v h => by
  obtain ⟨a, vs, rfl, h1, h2⟩ := h
  refine ⟨a, vs, rfl, h1, ?_⟩
  clear h1
  induction xs generalizing vs with
  | nil => cases h2; exact .nil
  | cons x xs ih => cases h2 with | cons p q => exact .cons p (ih _ q)
/-- the first of 0, .., n - 1 that answers P -/
def fst (P : Nat → Bool) (n : Nat) : Option Nat := (List.range n).find? P
theorem fst_some {P : Nat → Bool} {n k : Nat} (h1 : ∀ j, j < k → P j = false) (h2 : P k = true) (h3 : k < n) : fst P n = some k := by
  unfold fst
  rw [List.find?_eq_some_iff_append]
  refine ⟨h2, List.range k, List.range' (k + 1) (n - (k + 1)), ?_, fun j hj => by rw [h1 j (List.mem_range.mp hj)]; rfl⟩
  rw [List.range_eq_range', List.range_eq_range', ← List.range'_succ]
  have q := @List.range'_append 0 k (n - (k + 1) + 1) 1
  rw [Nat.one_mul, Nat.zero_add] at q
  rw [q]
  congr 1
  omega
theorem fst_none {P : Nat → Bool} {n : Nat} (h : ∀ j, j < n → P j = false) : fst P n = none := by
  unfold fst
  rw [List.find?_eq_none]
  intro j hj
  rw [h j (List.mem_range.mp hj)]
  exact Bool.false_ne_true
theorem fst_at {P : Nat → Bool} {n k : Nat} (h : fst P n = some k) : P k = true ∧ k < n ∧ ∀ j, j < k → P j = false := by
  have q := List.find?_some h
  have q2 : k < n := List.mem_range.mp (List.mem_of_find?_eq_some h)
  refine ⟨q, q2, fun j hj => ?_⟩
  cases e : P j with
  | false => rfl
  | true =>
    exfalso
    -- the first among 0 .. j is at most j
    unfold fst at h
    obtain ⟨_, as, bs, hl, hno⟩ := List.find?_eq_some_iff_append.mp h
    have hlen : as.length = k := by
      have z : (List.range n)[as.length]? = some k := by rw [hl]; simp
      rw [List.getElem?_range (by have := congrArg List.length hl; simp at this; omega)] at z
      exact Option.some.inj z
    have z : (List.range n)[j]? = some j := List.getElem?_range (by omega)
    rw [hl, List.getElem?_append_left (by omega)] at z
    have := hno j (List.mem_of_getElem? z)
    rw [e] at this
    cases this
theorem fst_no {P : Nat → Bool} {n : Nat} (h : fst P n = none) {j : Nat} (hj : j < n) : P j = false := by
  unfold fst at h
  rw [List.find?_eq_none] at h
  have := h j (List.mem_range.mpr hj)
  revert this
  cases P j <;> simp
end ZZ

set_option maxHeartbeats 2000000
/-! Z9: the pot from which a law draws; answers that leave owned cells. -/
namespace ZZ
open PySem PySem.Spec PyProof.Rows L2
open Evl (Ex)
/-! ### the pot -/
def PotP : Int × Int → Prop := fun ab => 0 ≤ ab.1 ∧ ab.1 < 1000003
def potA (q : Addr) (ab : Int × Int) : Co := Cu [I ab.1, I ab.2, At q]
def potQ : Co := Ce (fun _ : List Int => True) (Cl I)
def potW (p q : Addr) : Ws := [(p, Ce PotP (potA q)), (q, potQ)]
theorem sle_es {α : Type} {P : α → Prop} {R : α → Sh} {y : α} (h : P y) : Sle (R y) (Es P R) := fun _ _ z => ⟨y, h, z⟩
theorem Own.close {F B H : Hp} {ω ω' : Ws} {l : Addr} {C C' : Co} (O : Own F ω B H) (hs : Swp ω l C C' ω') (hc : ∀ B o, C.p B o → C'.p B o) : Own F ω' B H := by
  obtain ⟨_, _, o, h2, h3⟩ := O.ow _ _ hs.mem
  exact swp_own O hs fun o' e => by rw [h2] at e; cases e; exact hc _ _ h3
section
variable {c : Cc} {X : Cx} {B0 F : Hp} {D : Ends} {Γ Γ0 : En} {ω ω1 ωo : Ws} {S T : Sh} {e : Expr} {es : List Expr} {rest : List Stmt} {pos p : Pos} {x : Str}
theorem ds_retO (hR : Rt B0 F D.rt T ωo) (he : DE c Γ ω e S ω1) (w : Sle S T) (hO : ∀ B H, Own F ω1 B H → Own F ωo B H) : DS c X B0 F D Γ ω (.Return (some e) pos :: rest) := by
  intro fx σ B H hB hE hO'
  refine tS.cons (ps_ret pe_w) ?_
  refine he X fx F σ B H hE hO' _ fun v B1 H1 e1 O1 p1 => ?_
  exact hR v B1 H1 (hB.trans e1) (hO _ _ O1) (w _ _ p1)
theorem ds_retE {α : Type} {P : α → Prop} {Rs : α → Sh} (hR : Rt B0 F D.rt (Es P Rs) ωo) {y : α} (he : DE c Γ ω e (Rs y) ω1) (hy : P y) (hO : ∀ B H, Own F ω1 B H → Own F ωo B H) : DS c X B0 F D Γ ω (.Return (some e) pos :: rest) :=
  ds_retO hR he (fun B v h => ⟨y, hy, h⟩) hO
/-! ### a new pot -/
def RtP (B0 F : Hp) (rt : VK) : Prop := ∀ p q B H, Ex B0 B → Own F (potW p q) B H → rt (.ref p) H
def DAN {α : Type} (c : Cc) (Γ : En) (ω : Ws) (es : List Expr) (ss : Addr → List Sh) (R : α → Sh) (xs : List α) (ω' : Ws) : Prop :=
  ∀ X, Fits c (Γ.map (·.1)) X → ∀ F σ B H, EnvOk Γ σ B → Own F ω B H → ∀ Q : List V → Hp → Prop, (∀ l vs B' H', Ex B B' → Own F (ω' ++ [(l, Cl R xs)]) B' H' → All2 (fun v (s : Sh) => s.p B' v) vs (ss l) → Q vs H') → tA X es σ H Q
theorem an_last {α : Type} {R : α → Sh} {xs : List α} (h : DN c Γ ω e R xs ω1) (hs : ∀ env, starEach [e] env = (false, eval e env) :: starEach [] env := by intro _; rfl) : DAN c Γ ω [e] (fun l => [At l]) R xs ω1 := fun X fx F σ B H hE hO Q hQ => by
  refine tA.of (pa_cons pe_w pa_w (hs _)) ?_
  refine h X fx F σ B H hE hO _ fun l B1 H1 e1 O1 => ?_
  exact tA.of pa_nil (hQ l _ B1 H1 e1 O1 (.cons rfl .nil))
theorem an_cons {α : Type} {R : α → Sh} {xs : List α} {ss : Addr → List Sh} {ω2 : Ws} (ha : DE c Γ ω e S ω1) (hr : DAN c Γ ω1 es ss R xs ω2) (hs : ∀ env, starEach (e :: es) env = (false, eval e env) :: starEach es env := by intro _; rfl) : DAN c Γ ω (e :: es) (fun l => S :: ss l) R xs ω2 := fun X fx F σ B H hE hO Q hQ => by
  refine tA.of (pa_cons pe_w pa_w (hs _)) ?_
  refine ha X fx F σ B H hE hO _ fun v B1 H1 e1 O1 p1 => ?_
  exact hr X fx F σ B1 H1 (hE.mono e1) O1 _ fun l vs B2 H2 e2 O2 p2 => hQ l _ B2 H2 (e1.trans e2) O2 (.cons (S.mono e2 p1) p2)
theorem ds_retP {xs : List Int} {a b : Int} (hR : RtP B0 F D.rt) (h : DAN c Γ ω es (fun l => [I a, I b, At l]) I xs []) (hab : PotP (a, b)) : DS c X B0 F D Γ ω (.Return (some (.List es p)) pos :: rest) := by
  intro fx σ B H hB hE hO
  refine tS.cons (ps_ret pe_w) ?_
  refine tW.of (pe_lst pa_w) ?_
  refine h X fx F σ B H hE hO _ fun l vs B1 H1 e1 O1 p1 => ⟨by rw [p1.len]; show _ ≤ 16777216; simp, fun r hr => ?_⟩
  have O2 : Own F ((r, Cu [I a, I b, At l]) :: [(l, Cl I xs)]) B1 (upd H1 r (.lst vs)) := O1.cons hr ⟨vs, rfl, p1⟩
  have O3 : Own F [(r, Ce PotP (potA l)), (l, Cl I xs)] B1 (upd H1 r (.lst vs)) := O2.close .z fun B o z => ⟨(a, b), hab, z⟩
  exact hR r l B1 _ (hB.trans e1) (O3.close (.s .z) fun B o z => ⟨xs, trivial, z⟩)
/-- the numbers that the law is handed -/
def Sk (K : PySem.W.Frag) (ns : List Int) : Sh := ⟨fun B v => ∃ a, v = .ref a ∧ SqL K B a (ns.map V.int), fun e h => let ⟨a, h1, h2⟩ := h; ⟨a, h1, Evl.ex_l e h2⟩⟩
theorem all_ints {B : Hp} : ∀ ns : List Int, All2 (fun v x => (I x).p B v) (ns.map V.int) ns
  | [] => .nil
  | _ :: ns => .cons rfl (all_ints ns)
theorem n_slK {ns : List Int} {a : Expr} {ω2 ω3 : Ws} {lo hi : Option Expr} {i j : Option Int} {p2 : Pos} (ha : DE c Γ ω a (Sk c.M.K ns) ω1) (hl : DO c Γ ω1 lo i ω2) (hh : DO c Γ ω2 hi j ω3) : DN c Γ ω (.Subscript a (.Slice lo hi none p2) pos) I (cut ns i j) ω3 := by
  intro X fx F σ B H hE hO Q hQ
  refine tW.of (pe_slice sl_list pe_w po_w po_w) ?_
  refine ha X fx F σ B H hE hO _ fun v B1 H1 e1 O1 p1 => ?_
  refine hl.run fx (hE.mono e1) O1 fun B2 H2 e2 O2 => ?_
  refine hh.run fx (hE.mono (e1.trans e2)) O2 fun B3 H3 e3 O3 => ?_
  obtain ⟨a', rfl, h2⟩ := p1
  have h3 : All2 (fun v x => (I x).p B3 v) (ns.map V.int) ns := all_ints ns
  exact ⟨a', _, rfl, by rw [fx.K]; exact Evl.ex_l ((e2.trans e3).trans O3.ex) h2, fun q hq => hQ q _ _ ((e1.trans e2).trans e3) (O3.add hq (C := Cl I (cut ns i j)) ⟨_, rfl, h3.cut i j⟩)⟩
theorem d_slK {ns : List Int} {a : Expr} {ω2 ω3 : Ws} {lo hi : Option Expr} {i j : Option Int} {p2 : Pos} (ha : DE c Γ ω a (Sk c.M.K ns) ω1) (hl : DO c Γ ω1 lo i ω2) (hh : DO c Γ ω2 hi j ω3) : DE c Γ ω (.Subscript a (.Slice lo hi none p2) pos) (L I (cut ns i j)) ω3 := (n_slK ha hl hh).frz
def spPot (K : PySem.W.Frag) (n : Nat) : Sp := fun vs H Q _ => ∃ (F B : Hp) (ns : List Int), ns.length ≤ n ∧ All2 (fun v (s : Sh) => s.p B v) vs [Sk K ns] ∧ Own F [] B H ∧ ∀ p q B' H', Ex B B' → Own F (potW p q) B' H' → Q (.ref p) H'
def Gp (M : Mo) (k : Nat) (x : Str) (n : Nat) (ps : List Str) : Prop :=
  ∃ (f : Addr) (fd : FuncData), FnOk M.P M.w M.K M.mg M.base CX0 k f fd ps (spPot M.K n) ∧ M.mg x = some (.ref f) ∧ PySem.W.keepIn M.K (.ref f) = true ∧ Binds M.K fd ps []
theorem Pr.gp {M : Mo} {k n : Nat} {x : Str} {st : Stmt} {N : List Str} {s : Str} (P : Pr M x st [s]) (S : FnScope N [s] (defScope st))
    (hbody : ∀ (X : Cx) (B0 F0 : Hp) (D : Ends) (ns : List Int), ns.length ≤ n → RtP B0 F0 D.rt → DS ⟨M, defScope st, k, true, false⟩ X B0 F0 D (mkΓ N [Sk M.K ns]) [] (defBody st)) : Gp M (k + 1) x n [s] := by
  obtain ⟨f, fd, F, hm, hb⟩ := P
  refine ⟨f, fd, F.ok S (fun vs H Q E h => ?_) (fun cdv A outer s H vs Q E hr h => ?_), hm, F.kp, hb⟩
  · obtain ⟨_, _, ns, _, h2, _⟩ := h
    rw [h2.len]; rfl
  · obtain ⟨F0, B, ns, hn, hv, hO, hQ⟩ := h
    have hl : [s].length ≤ N.length := by have := congrArg List.length S.pre; rw [List.length_take] at this; simp at this ⊢; omega
    refine ⟨_, pss_w, hbody _ B F0 _ ns hn (fun p q B' H' e1 O1 => hQ p q B' H' e1 O1) ?_ _ B H (Ex.refl B) (mk_env N _ vs hv hl) hO⟩
    rw [mk_names]
    exact ⟨rfl, rfl, rfl, rfl, rfl, rfl, rfl, S.nd, fun _ => rfl, fun _ => hr, L2H.roomH_of hr, (fun h => nomatch h), fun _ _ _ => rfl, PassesOwn.never⟩
theorem ds_pot [Cold c] {k n : Nat} {y : Str} {a : Expr} {s : Str} {ns : List Int} {px pf : Pos} (G : Gp c.M k y n [s]) (hk : k ≤ c.k) (ha : DE c Γ [] a (Sk c.M.K ns) []) (hn : ns.length ≤ n) (hp : Put Γ x none Γ0) (K : ∀ p q, ∃ Γ1, Put Γ x (some (At p)) Γ1 ∧ DS c X B0 F D Γ1 (potW p q) rest)
    (hl : Lo c x := by first | exact Or.inl rfl | exact Or.inr ⟨rfl, rfl⟩) (hg : Glo c.sc y := by exact rfl) (hdb : (y == ("__debug__" : Str)) = false := by decide) (he : ∀ env, starEach [a] env = (false, eval a env) :: starEach [] env := by intro _; rfl) (hpl : ∀ env, (backTo p (starEach ([] : List Expr) env)).any (·.1) = false := by intro _; rfl)
    (hs : ∀ env, swapsWithSole [.Name x px] (.Call (.Name y pf) [a] [] p) pos.line env = pure false := by intro _; rfl) (hw : ∀ env, swappedStores [.Name x px] (.Call (.Name y pf) [a] [] p) env = pure none := by intro _; rfl) : DS c X B0 F D Γ [] (.Assign [.Name x px] (.Call (.Name y pf) [a] [] p) pos :: rest) := by
  intro fx σ B H hB hE hO
  obtain ⟨f, fd, hF, hm, hkp, hb⟩ := G
  obtain ⟨j, hj⟩ := hp.ix
  refine tS.cons (ps_asg pe_w (pg_name (i := j) (by rw [fx.ns]; exact fx.nd) (by rw [fx.ns]; exact hj) (fx.lo hl).1 (fx.lo hl).2) (hs _) (hw _) (by rfl)) ?_
  have hF' : FnOk X.prog X.w X.K X.mg X.base CX0 k f fd [s] (spPot c.M.K n) := by rw [fx.prog, fx.w, fx.K, fx.mg, fx.base]; exact hF
  refine tW.of (pe_call (ds := []) (dvs := []) (E := E0) hF' (fx.room.mono hk) (gl_of fx hg) (by rw [fx.mg]; exact hm) (by rw [fx.K]; exact hkp) (by rw [fx.K]; exact hb) .nil pass0 pa_w hdb (he _) (hpl _)) ?_
  refine a_cons ha a_nil he X fx F σ B H hE hO _ fun vs B1 H1 e1 O1 p1 => ?_
  refine ⟨F, B1, ns, hn, by rw [List.append_nil]; exact p1, O1, fun p' q' B2 H2 e2 O2 => ?_⟩
  obtain ⟨Γ1, hp', K⟩ := K p' q'
  obtain ⟨j', h1, h2⟩ := hp'.set
  have e : j' = j := nodup_ix fx.nd h1 hj
  subst e
  exact K (fx.re hp'.names) _ B2 H2 (hB.trans (e1.trans e2)) (h2 _ _ _ (hE.mono (e1.trans e2)) rfl) O2
end
/-! ### numbers known up to a word -/
section
variable {c : Cc} {Γ : En} {ω ω1 ω2 : Ws} {a b : Expr} {P Q' : Int → Prop} {pos p : Pos} {r : L2.R2}
theorem rr_EE {f : Int → Int → Int} (h : ∀ i j, P i → Q' j → RR r (I i) (I j) (I (f i j))) : RR r (Ei P) (Ei Q') (Ei fun z => ∃ i j, P i ∧ Q' j ∧ z = f i j) := fun F ω B H v u h1 h2 O Q q => by
  obtain ⟨i, hi, e1⟩ := h1
  obtain ⟨j, hj, e2⟩ := h2
  exact h i j hi hj F ω B H v u e1 e2 O Q fun z B' H' e O' p => q z B' H' e O' ⟨_, ⟨i, j, hi, hj, rfl⟩, p⟩
theorem rr_ET {f : Int → Int → Bool} (h : ∀ i j, P i → Q' j → RR r (I i) (I j) (Bo (f i j))) : RR r (Ei P) (Ei Q') (Es (fun z => ∃ i j, P i ∧ Q' j ∧ z = f i j) Bo) := fun F ω B H v u h1 h2 O Q q => by
  obtain ⟨i, hi, e1⟩ := h1
  obtain ⟨j, hj, e2⟩ := h2
  exact h i j hi hj F ω B H v u e1 e2 O Q fun z B' H' e O' p => q z B' H' e O' ⟨_, ⟨i, j, hi, hj, rfl⟩, p⟩
theorem e_add (ha : DE c Γ ω a (Ei P) ω1) (hb : DE c Γ ω1 b (Ei Q') ω2) : DE c Γ ω (.BinOp a .Add b pos) (Ei fun z => ∃ i j, P i ∧ Q' j ∧ z = i + j) ω2 := d_bin (fun _ => op_add) ha hb (rr_EE fun _ _ _ _ => rr_I0)
theorem e_sub (ha : DE c Γ ω a (Ei P) ω1) (hb : DE c Γ ω1 b (Ei Q') ω2) : DE c Γ ω (.BinOp a .Sub b pos) (Ei fun z => ∃ i j, P i ∧ Q' j ∧ z = i - j) ω2 := d_bin (fun _ => op_sub) ha hb (rr_EE fun _ _ _ _ => rr_I0)
theorem e_mul (ha : DE c Γ ω a (Ei P) ω1) (hb : DE c Γ ω1 b (Ei Q') ω2) (hc : ∀ i j, P i → Q' j → CMul i j) : DE c Γ ω (.BinOp a .Mult b pos) (Ei fun z => ∃ i j, P i ∧ Q' j ∧ z = i * j) ω2 := d_bin (fun _ => op_mul) ha hb (rr_EE fun i j h1 h2 => rr_I (hc i j h1 h2))
theorem e_div (ha : DE c Γ ω a (Ei P) ω1) (hb : DE c Γ ω1 b (Ei Q') ω2) (hc : ∀ i j, P i → Q' j → CDiv i j) : DE c Γ ω (.BinOp a .FloorDiv b pos) (Ei fun z => ∃ i j, P i ∧ Q' j ∧ z = i / j) ω2 := d_bin (fun _ => op_fdiv) ha hb (rr_EE fun i j h1 h2 => rr_I (hc i j h1 h2))
theorem e_mod (ha : DE c Γ ω a (Ei P) ω1) (hb : DE c Γ ω1 b (Ei Q') ω2) (hc : ∀ i j, P i → Q' j → 0 < j) : DE c Γ ω (.BinOp a .Mod b pos) (Ei fun z => ∃ i j, P i ∧ Q' j ∧ z = i % j) ω2 := d_bin (fun _ => op_mod) ha hb (rr_EE fun i j h1 h2 => rr_I (hc i j h1 h2))
theorem e_lt (ha : DE c Γ ω a (Ei P) ω1) (hb : DE c Γ ω1 b (Ei Q') ω2) : DT c Γ ω (.Compare a [.Lt] [b] pos) (fun z => ∃ i j, P i ∧ Q' j ∧ z = decide (i < j)) ω2 := t_cmp (fun _ _ => op_lt) ha hb (rr_ET fun _ _ _ _ => rr_I0) (nomark _)
theorem e_le (ha : DE c Γ ω a (Ei P) ω1) (hb : DE c Γ ω1 b (Ei Q') ω2) : DT c Γ ω (.Compare a [.LtE] [b] pos) (fun z => ∃ i j, P i ∧ Q' j ∧ z = decide (i ≤ j)) ω2 := t_cmp (fun _ _ => op_le) ha hb (rr_ET fun _ _ _ _ => rr_I0) (nomark _)
theorem e_gt (ha : DE c Γ ω a (Ei P) ω1) (hb : DE c Γ ω1 b (Ei Q') ω2) : DT c Γ ω (.Compare a [.Gt] [b] pos) (fun z => ∃ i j, P i ∧ Q' j ∧ z = decide (j < i)) ω2 := t_cmp (fun _ _ => op_gt) ha hb (rr_ET fun _ _ _ _ => rr_I0) (nomark _)
theorem e_ge (ha : DE c Γ ω a (Ei P) ω1) (hb : DE c Γ ω1 b (Ei Q') ω2) : DT c Γ ω (.Compare a [.GtE] [b] pos) (fun z => ∃ i j, P i ∧ Q' j ∧ z = decide (j ≤ i)) ω2 := t_cmp (fun _ _ => op_ge) ha hb (rr_ET fun _ _ _ _ => rr_I0) (nomark _)
theorem e_eqI (ha : DE c Γ ω a (Ei P) ω1) (hb : DE c Γ ω1 b (Ei Q') ω2) : DT c Γ ω (.Compare a [.Eq] [b] pos) (fun z => ∃ i j, P i ∧ Q' j ∧ z = decide (i = j)) ω2 := t_cmp (fun _ _ => op_eq) ha hb (rr_ET fun _ _ _ _ => by rw [← vint]; exact rr_eq rfl) (nomark _)
theorem e_neI (ha : DE c Γ ω a (Ei P) ω1) (hb : DE c Γ ω1 b (Ei Q') ω2) : DT c Γ ω (.Compare a [.NotEq] [b] pos) (fun z => ∃ i j, P i ∧ Q' j ∧ z = !decide (i = j)) ω2 := t_cmp (fun _ _ => op_ne) ha hb (rr_ET fun _ _ _ _ => by rw [← vint]; exact rr_ne rfl) (nomark _)
theorem e_min2 [Cold c] (ha : DE c Γ ω a (Ei P) ω1) (hb : DE c Γ ω1 b (Ei Q') ω2) (hm : c.M.mg "min" = none) (hg : Glo c.sc "min" := by exact rfl) (he : ∀ env, starEach [a, b] env = (false, eval a env) :: starEach [b] env := by intro _; rfl)
    (he2 : ∀ env, starEach [b] env = (false, eval b env) :: starEach [] env := by intro _; rfl) (hpl : ∀ env, (backTo pos (starEach [b] env)).any (·.1) = false := by intro _; rfl) : DE c Γ ω (.Call (.Name "min" p) [a, b] [] pos) (Ei fun z => ∃ i j, P i ∧ Q' j ∧ z = min i j) ω2 :=
  d_callB (fun _ fx => call_min2 fx.calm) hg hm PyProof.Rows.boot_min (a_cons ha (a_cons hb a_nil he2) he) (rc2 fun F ω B H v u h1 h2 O Q q => by
    obtain ⟨i, hi, h1⟩ := h1
    obtain ⟨j, hj, h2⟩ := h2
    have h1 : v = .int i := h1
    have h2 : u = .int j := h2
    subst h1 h2
    refine ⟨i, j, rfl, q _ B H (Ex.refl B) O ⟨_, ⟨i, j, hi, hj, rfl⟩, ?_⟩⟩
    show V.int _ = V.int _
    congr 1
    split <;> omega) (he := he) (hpl := hpl)
theorem e_max2 [Cold c] (ha : DE c Γ ω a (Ei P) ω1) (hb : DE c Γ ω1 b (Ei Q') ω2) (hm : c.M.mg "max" = none) (hg : Glo c.sc "max" := by exact rfl) (he : ∀ env, starEach [a, b] env = (false, eval a env) :: starEach [b] env := by intro _; rfl)
    (he2 : ∀ env, starEach [b] env = (false, eval b env) :: starEach [] env := by intro _; rfl) (hpl : ∀ env, (backTo pos (starEach [b] env)).any (·.1) = false := by intro _; rfl) : DE c Γ ω (.Call (.Name "max" p) [a, b] [] pos) (Ei fun z => ∃ i j, P i ∧ Q' j ∧ z = max i j) ω2 :=
  d_callB (fun _ fx => call_max2 fx.calm) hg hm PyProof.Rows.boot_max (a_cons ha (a_cons hb a_nil he2) he) (rc2 fun F ω B H v u h1 h2 O Q q => by
    obtain ⟨i, hi, h1⟩ := h1
    obtain ⟨j, hj, h2⟩ := h2
    have h1 : v = .int i := h1
    have h2 : u = .int j := h2
    subst h1 h2
    refine ⟨i, j, rfl, q _ B H (Ex.refl B) O ⟨_, ⟨i, j, hi, hj, rfl⟩, ?_⟩⟩
    show V.int _ = V.int _
    congr 1
    split <;> omega) (he := he) (hpl := hpl)
theorem e_ix {α : Type} {bb : Bool} {Rs : α → Sh} {xs : List α} (ha : DE c Γ ω a (Sq bb Rs xs) ω1) (hb : DE c Γ ω1 b (Ei P) ω2) (h : ∀ k, P k → 0 ≤ k ∧ k < xs.length) (hs : PlainIx b := by exact fun _ _ => rfl) : DE c Γ ω (.Subscript a b pos) (Es (fun y => ∃ k, P k ∧ L2.atI xs k = some y) Rs) ω2 := by
  intro X fx F σ B H hE hO Q hQ
  have at' : ∀ k, P k → ∃ y, L2.atI xs k = some y := fun k hk => by
    obtain ⟨h1, h2⟩ := h k hk
    obtain ⟨j, rfl⟩ := Int.eq_ofNat_of_zero_le h1
    exact ⟨_, atI_of rfl (List.getElem?_eq_getElem (by omega))⟩
  have go : ∀ (r : L2.R2), IxR X r → (∀ v u B2 H2, (Sq bb Rs xs).p B2 v → (Ei P).p B2 u → Ex B2 H2 → (∀ z, (Es (fun y => ∃ k, P k ∧ L2.atI xs k = some y) Rs).p B2 z → Q z H2) → r v u H2 Q) → tW X (.Subscript a b pos) σ H Q := fun r hr hh => by
    refine tW.of (pe_ix hr pe_w pe_w hs) ?_
    refine ha X fx F σ B H hE hO _ fun v B1 H1 e1 O1 p1 => ?_
    refine hb X fx F σ B1 H1 (hE.mono e1) O1 _ fun u B2 H2 e2 O2 p2 => ?_
    exact hh v u B2 H2 ((Sq bb Rs xs).mono e2 p1) p2 O2.ex fun z q => hQ z B2 H2 (e1.trans e2) O2 q
  cases bb with
  | true =>
    refine go _ ix_list fun v u B2 H2 p1 p2 e q => ?_
    obtain ⟨k, hk, p2⟩ := p2
    obtain ⟨y, hy⟩ := at' k hk
    obtain ⟨a', vs, rfl, h2, h3⟩ := sq_get p1 e
    obtain ⟨z, e1, e2⟩ := h3.atI hy
    exact ⟨a', vs, k, z, rfl, p2, SqL.of h2, e1, q z ⟨y, ⟨k, hk, hy⟩, e2⟩⟩
  | false =>
    refine go _ ix_tup fun v u B2 H2 p1 p2 e q => ?_
    obtain ⟨k, hk, p2⟩ := p2
    obtain ⟨y, hy⟩ := at' k hk
    obtain ⟨a', vs, rfl, h2, h3⟩ := sq_get p1 e
    obtain ⟨z, e1, e2⟩ := h3.atI hy
    exact ⟨a', vs, k, z, rfl, p2, SqT.of h2, e1, q z ⟨y, ⟨k, hk, hy⟩, e2⟩⟩
end
/-! ### what is drawn -/
def dr : Ct ((Addr × Addr) × Int) := { As := fun g => [At g.1.1, I g.2], pre := fun g => 0 < g.2 ∧ g.2 < 1073741824, S := fun g => Ei (fun r => 0 ≤ r ∧ r < g.2), ω := fun g => potW g.1.1 g.1.2, ω' := fun g => potW g.1.1 g.1.2 }
abbrev pw (p q : Addr) : Addr × Co := (p, Ce PotP (potA q))
abbrev qw (q : Addr) : Addr × Co := (q, potQ)
theorem d_draw {c : Cc} [Cold c] {Γ : En} {rest : Ws} {a b : Expr} {p q : Addr} {m : Int} {k : Nat} {x : Str} {pos px : Pos} (G : Gd c.M k x ["pot", "many"] dr) (hk : k ≤ c.k) (ha : DE c Γ (pw p q :: qw q :: rest) a (At p) (pw p q :: qw q :: rest)) (hb : DE c Γ (pw p q :: qw q :: rest) b (I m) (pw p q :: qw q :: rest)) (h : 0 < m ∧ m < 1073741824)
    (hg : Glo c.sc x := by exact rfl) (hdb : (x == ("__debug__" : Str)) = false := by decide) (he : ∀ env, starEach [a, b] env = (false, eval a env) :: starEach [b] env := by intro _; rfl) (he2 : ∀ env, starEach [b] env = (false, eval b env) :: starEach [] env := by intro _; rfl) (hpl : ∀ env, (backTo pos (starEach [b] env)).any (·.1) = false := by intro _; rfl) :
    DE c Γ (pw p q :: qw q :: rest) (.Call (.Name x px) [a, b] [] pos) (Ei fun r => 0 ≤ r ∧ r < m) (pw p q :: qw q :: rest) :=
  d_call (t := dr) (rest := rest) ((p, q), m) G hk (a_cons ha (a_cons hb a_nil he2) he) rfl h rfl hg hdb he hpl
/-- the number of things to draw from is itself known up to a word -/
theorem d_drawE {c : Cc} [Cold c] {Γ : En} {rest : Ws} {a b : Expr} {p q : Addr} {P : Int → Prop} {k : Nat} {x : Str} {pos px : Pos} (G : Gd c.M k x ["pot", "many"] dr) (hk : k ≤ c.k) (ha : DE c Γ (pw p q :: qw q :: rest) a (At p) (pw p q :: qw q :: rest)) (hb : DE c Γ (pw p q :: qw q :: rest) b (Ei P) (pw p q :: qw q :: rest)) (h : ∀ m, P m → 0 < m ∧ m < 1073741824)
    (hg : Glo c.sc x := by exact rfl) (hdb : (x == ("__debug__" : Str)) = false := by decide) (he : ∀ env, starEach [a, b] env = (false, eval a env) :: starEach [b] env := by intro _; rfl) (he2 : ∀ env, starEach [b] env = (false, eval b env) :: starEach [] env := by intro _; rfl) (hpl : ∀ env, (backTo pos (starEach [b] env)).any (·.1) = false := by intro _; rfl) :
    DE c Γ (pw p q :: qw q :: rest) (.Call (.Name x px) [a, b] [] pos) (Ei fun r => ∃ m, P m ∧ 0 ≤ r ∧ r < m) (pw p q :: qw q :: rest) := by
  obtain ⟨f, fd, hF, hm, hkp, hb'⟩ := G
  intro X fx F σ B H hE hO Q hQ
  have hF' : FnOk X.prog X.w X.K X.mg X.base CX0 k f fd ["pot", "many"] dr.sp := by rw [fx.prog, fx.w, fx.K, fx.mg, fx.base]; exact hF
  refine tW.of (pe_call (ds := []) (dvs := []) (E := E0) hF' (fx.room.mono hk) (gl_of fx hg) (by rw [fx.mg]; exact hm) (by rw [fx.K]; exact hkp) (by rw [fx.K]; exact hb') .nil pass0 pa_w hdb (he _) (hpl _)) ?_
  refine a_cons ha (a_cons hb a_nil he2) he X fx F σ B H hE hO _ fun vs B1 H1 e1 O1 p1 => ?_
  obtain ⟨v, u, rfl, h1, m, hm', h2⟩ := all2 p1
  refine ⟨((p, q), m), frame F rest H1, B1, h m hm', .cons h1 (.cons h2 .nil), (show Own F (potW p q ++ rest) B1 H1 from O1).focus, fun v B' H' e2 O2 p2 => ?_⟩
  obtain ⟨y, hy, p2⟩ := p2
  exact hQ v B' H' (e1.trans e2) ((show Own F (potW p q ++ rest) B1 H1 from O1).unfocus e2 O2 rfl) ⟨y, ⟨m, hm', hy⟩, p2⟩
theorem tab_last {α : Type} {f : Nat → α} {n : Nat} : L2.atI (tab f (n + 1)) (-1) = some (f n) := by rw [tab_succ]; exact atI_last _ _
theorem ds_setiE {c : Cc} {X : Cx} {B0 F : Hp} {D : Ends} {Γ : En} {ω ω1 ω2 ω3 : Ws} {e o i : Expr} {rest : List Stmt} {pos p : Pos} {l : Addr} {α : Type} {P : α → Prop} {Rs : α → Sh} {xs : List α} {kk : Int} {j : Nat} (he : DE c Γ ω e (Es P Rs) ω1) (ho : DE c Γ ω1 o (At l) ω2) (hi : DE c Γ ω2 i (I kk) ω3) (hj : ixN xs.length kk = some j) (k : ∀ y, P y → ∃ ωo, Swp ω3 l (Cl Rs xs) (Cl Rs (xs.set j y)) ωo ∧ DS c X B0 F D Γ ωo rest)
    (hss : ∀ env, swapsWithSole [.Subscript o i p] e pos.line env = pure false := by intro _; rfl) (hw : ∀ env, swappedStores [.Subscript o i p] e env = pure none := by intro _; rfl)
    (ha : ∀ env v, assign (.Subscript o i p) env v = (do
      let ov ← holding [v] (eval o env)
      let iv ← holding [v, ov] (eval i env)
      standAt p
      holding [v, ov, iv] (setItem ov iv v)
      release [v, ov, iv] []) := by intro _ _; rfl) : DS c X B0 F D Γ ω (.Assign [.Subscript o i p] e pos :: rest) := by
  intro fx σ B H hB hE hO
  refine tS.cons (ps_asg pe_w (pg_sub pe_w pe_w set_list (ha _)) (hss _) (hw _) (by rfl)) ?_
  refine he X fx F σ B H hE hO _ fun v B1 H1 e1 O1 p1 => ?_
  refine ho X fx F σ B1 H1 (hE.mono e1) O1 _ fun v2 B2 H2 e2 O2 p2 => ?_
  refine hi X fx F σ B2 H2 (hE.mono (e1.trans e2)) O2 _ fun v3 B3 H3 e3 O3 p3 => ?_
  obtain ⟨y, hy, p1⟩ := p1
  obtain ⟨ωo, hs, k⟩ := k y hy
  obtain ⟨_, _, o', h2, us, rfl, h3⟩ := O3.ow _ _ hs.mem
  refine ⟨l, us, kk, j, p2, p3, h2, by rw [h3.len]; exact hj, ?_⟩
  exact k fx σ B3 _ (((hB.trans e1).trans e2).trans e3) (hE.mono ((e1.trans e2).trans e3)) (O3.swp hs ⟨_, rfl, All2.set (R := fun v x => (Rs x).p B3 v) ((Rs y).mono (e2.trans e3) p1) j h3⟩)
end ZZ

set_option maxHeartbeats 2000000
/-! Z10: a lent list; calls that draw; lists of things known up to a word. -/
namespace ZZ
open PySem PySem.Spec PyProof.Rows L2
open Evl (Ex)
def Flat (C : Co) : Prop := ∀ B B' o, C.p B o → C.p B' o
theorem flat_potQ : Flat potQ := fun B B' o h => by
  obtain ⟨ns, h1, vs, rfl, h2⟩ := h
  exact ⟨ns, h1, vs, rfl, h2.mp fun _ _ q => q⟩
theorem flat_potA {q : Addr} : Flat (Ce PotP (potA q)) := fun B B' o h => by
  obtain ⟨ab, h1, vs, rfl, h2⟩ := h
  refine ⟨ab, h1, vs, rfl, ?_⟩
  cases h2 with | cons a h2 => cases h2 with | cons b h2 => cases h2 with | cons c h2 => cases h2; exact .cons a (.cons b (.cons c .nil))
theorem flat_pot {p q : Addr} : ∀ e ∈ ([pw p q, qw q] : Ws), Flat e.2 := fun e he => by
  rcases List.mem_cons.mp he with rfl | he
  · exact flat_potA
  · rw [List.mem_singleton.mp he]; exact flat_potQ
theorem Tak.split {ω ω1 : Ws} {l m : Addr} {C D : Co} (t : Tak ω l C ω1) (h : (m, D) ∈ ω) : (m, D) = (l, C) ∨ (m, D) ∈ ω1 := by
  induction t with
  | z => exact (List.mem_cons.mp h).imp id id
  | s t ih =>
    rcases List.mem_cons.mp h with z | z
    · exact .inr (List.mem_cons.mpr (.inl z))
    · exact (ih z).imp id fun q => List.mem_cons_of_mem _ q
theorem Tak.has {ω ω1 : Ws} {l a : Addr} {C : Co} (t : Tak ω l C ω1) (h : a ∉ ω.map (·.1)) : a ≠ l ∧ a ∉ ω1.map (·.1) :=
  ⟨fun z => h (z ▸ mem_addr t.mem), fun z => h (by
    obtain ⟨⟨m, D⟩, hm, rfl⟩ := List.mem_map.mp z
    exact mem_addr (t.sub hm))⟩
/-- an owned list is read as one that is never changed, and is owned again -/
theorem t_borrow {c : Cc} {Γ Γ1 : En} {ω ω1 : Ws} {x : Str} {l : Addr} {α : Type} {Rs : α → Sh} {xs : List α} {e : Expr} {R : Bool → Prop} (hu : Upg Γ x (At l) (L Rs xs) Γ1) (ht : Tak ω l (Cl Rs xs) ω1) (hfl : ∀ e ∈ ω1, Flat e.2) (hd : DT c Γ1 ω1 e R ω1) : DT c Γ ω e R ω := by
  intro X fx F σ B H hE hO Q hQ
  obtain ⟨o, h1, h3, O2, e2⟩ := hO.freeze ht
  obtain ⟨hb, hf, _⟩ := hO.ow _ _ ht.mem
  have h3' := h3
  obtain ⟨vs, rfl, h4⟩ := h3
  refine hd X (fx.re hu.names) F σ (upd B l (.lst vs)) H (hu.env (fun v hv => ?_) (hE.mono e2)) O2 Q fun b B2 H2 e3 O3 hr => ?_
  · exact ⟨l, vs, hv, upd_same, h4.mp fun _ s q => (Rs s).mono e2 q⟩
  · have hl : B2 l = some (.lst vs) := e3 _ _ upd_same
    have eB : Ex B (fun a => if a = l then none else B2 a) := fun a o' h => by
      have hne : a ≠ l := fun z => by rw [z, hb] at h; cases h
      show (if a = l then none else B2 a) = some o'
      rw [if_neg hne]
      exact e3 _ _ (by rw [upd_ne hne]; exact h)
    refine hQ b _ H2 eB ⟨hO.nd, fun m D hm => ?_, fun a ha => ?_⟩ hr
    · rcases ht.split hm with z | z
      · cases z
        exact ⟨if_pos rfl, hf, .lst vs, O3.ex _ _ hl, (Cl Rs xs).mono eB h3'⟩
      · obtain ⟨q1, q2, o', q3, q4⟩ := O3.ow m D z
        have hne : m ≠ l := fun y => by rw [y, hl] at q1; cases q1
        exact ⟨by show (if m = l then none else B2 m) = none; rw [if_neg hne]; exact q1, q2, o', q3, hfl _ z _ _ _ q4⟩
    · obtain ⟨z1, z2⟩ := ht.has ha
      obtain ⟨q1, q2⟩ := O3.fr a z2
      show ((if a = l then none else B2 a) = none ∨ F a = none) ∧ H2 a = (if a = l then none else B2 a).or (F a)
      rw [if_neg z1]
      exact ⟨q1, q2⟩
section
variable {c : Cc} {Γ : En} {ω ω1 rest : Ws} {e : Expr} {es : List Expr} {x : Str} {p q : Addr} {pos px : Pos} {S : Sh}
/-- a call that draws; the arguments may be known up to a word -/
theorem d_callX [Cold c] {τ : Type} {t : Ct τ} {k : Nat} {ps : List Str} {ss : List Sh} (G : Gd c.M k x ps t) (hk : k ≤ c.k) (ha : DA c Γ ω (e :: es) ss (pw p q :: qw q :: rest))
    (h : ∀ B vs, All2 (fun v (s : Sh) => s.p B v) vs ss → ∃ g, t.pre g ∧ All2 (fun v (s : Sh) => s.p B v) vs (t.As g) ∧ t.ω g = potW p q ∧ t.ω' g = potW p q ∧ Sle (t.S g) S)
    (hg : Glo c.sc x := by exact rfl) (hdb : (x == ("__debug__" : Str)) = false := by decide) (he : ∀ env, starEach (e :: es) env = (false, eval e env) :: starEach es env := by intro _; rfl) (hpl : ∀ env, (backTo pos (starEach es env)).any (·.1) = false := by intro _; rfl) :
    DE c Γ ω (.Call (.Name x px) (e :: es) [] pos) S (pw p q :: qw q :: rest) := by
  obtain ⟨f, fd, hF, hm, hkp, hb'⟩ := G
  intro X fx F σ B H hE hO Q hQ
  have hF' : FnOk X.prog X.w X.K X.mg X.base CX0 k f fd ps t.sp := by rw [fx.prog, fx.w, fx.K, fx.mg, fx.base]; exact hF
  refine tW.of (pe_call (ds := []) (dvs := []) (E := E0) hF' (fx.room.mono hk) (gl_of fx hg) (by rw [fx.mg]; exact hm) (by rw [fx.K]; exact hkp) (by rw [fx.K]; exact hb') .nil pass0 pa_w hdb (he _) (hpl _)) ?_
  refine ha X fx F σ B H hE hO _ fun vs B1 H1 e1 O1 p1 => ?_
  obtain ⟨g, h1, h2, h3, h4, h5⟩ := h B1 vs p1
  refine ⟨g, frame F rest H1, B1, h1, by rw [List.append_nil]; exact h2, by rw [h3]; exact (show Own F (potW p q ++ rest) B1 H1 from O1).focus, fun v B' H' e2 O2 p2 => ?_⟩
  rw [h4] at O2
  exact hQ v B' H' (e1.trans e2) ((show Own F (potW p q ++ rest) B1 H1 from O1).unfocus e2 O2 rfl) (h5 _ _ p2)
theorem d_callK [Cold c] {τ : Type} {t : Ct τ} {k : Nat} {ps : List Str} {ss : List Sh} (g : τ) (G : Gd c.M k x ps t) (hk : k ≤ c.k) (ha : DA c Γ ω (e :: es) ss (pw p q :: qw q :: rest)) (hs : ss = t.As g) (hp : t.pre g) (h3 : t.ω g = potW p q := by rfl) (h4 : t.ω' g = potW p q := by rfl)
    (hg : Glo c.sc x := by exact rfl) (hdb : (x == ("__debug__" : Str)) = false := by decide) (he : ∀ env, starEach (e :: es) env = (false, eval e env) :: starEach es env := by intro _; rfl) (hpl : ∀ env, (backTo pos (starEach es env)).any (·.1) = false := by intro _; rfl) :
    DE c Γ ω (.Call (.Name x px) (e :: es) [] pos) (t.S g) (pw p q :: qw q :: rest) :=
  d_callX G hk ha (fun B vs h => ⟨g, hp, hs ▸ h, h3, h4, Sle.refl⟩) hg hdb he hpl
/-- a list of things that all answer P -/
theorem d_lstE {α : Type} {P : α → Prop} {R : α → Sh} (n : Nat) (h : DA c Γ ω es (List.replicate n (Es P R)) ω1) (hn : n ≤ sizeLine := by show _ ≤ 16777216; decide) : DE c Γ ω (.List es pos) (Es (fun xs => xs.length = n ∧ ∀ x ∈ xs, P x) (L R)) ω1 := by
  have key : ∀ {B : Hp} {n : Nat} {vs : List V}, All2 (fun v (s : Sh) => s.p B v) vs (List.replicate n (Es P R)) → ∃ xs : List α, (xs.length = n ∧ ∀ x ∈ xs, P x) ∧ All2 (fun v x => (R x).p B v) vs xs := fun {B} n => by
    induction n with
    | zero => intro vs h; cases h; exact ⟨[], ⟨rfl, fun _ h => absurd h (by simp)⟩, .nil⟩
    | succ n ih =>
      intro vs h
      cases h with | cons p h =>
      obtain ⟨y, hy, p⟩ := p
      obtain ⟨xs, ⟨h1, h2⟩, h3⟩ := ih h
      exact ⟨y :: xs, ⟨by simp [h1], fun x hx => (List.mem_cons.mp hx).elim (fun z => z ▸ hy) (h2 x)⟩, .cons p h3⟩
  intro X fx F σ B H hE hO Q hQ
  refine tW.of (pe_lst pa_w) ?_
  refine h X fx F σ B H hE hO _ fun vs B1 H1 e1 O1 p1 => ⟨by rw [p1.len, List.length_replicate]; exact hn, fun p hp => ?_⟩
  obtain ⟨xs, hxs, q⟩ := key p1
  obtain ⟨O2, e2⟩ := O1.new (o := .lst vs) hp
  exact hQ _ _ _ (e1.trans e2) O2 ⟨xs, hxs, p, vs, rfl, upd_same, q.mp fun _ s q => (R s).mono e2 q⟩
end
/-- a def's body, as the judge's head asks for it -/
theorem gd_fn {τ : Type} {t : Ct τ} {M : Mo} {k : Nat} {x qual : Str} {st : Stmt} {f : Addr} {fd : FuncData} {N ps : List Str} (F : Fun M.K x qual st f fd) (S : FnScope N ps (defScope st)) (hlen : ∀ g, (t.As g).length = ps.length)
    (hbody : ∀ (X : Cx) (B0 F0 : Hp) (D : Ends) (g : τ), t.pre g → Rt B0 F0 D.rt (t.S g) (t.ω' g) → (∀ σ H, D.rt .non H → D.nx σ H) → DS ⟨M, defScope st, k, true, false⟩ X B0 F0 D (mkΓ N (t.As g)) (t.ω g) (defBody st)) : FnOk M.P M.w M.K M.mg M.base CX0 (k + 1) f fd ps t.sp := by
  refine F.ok S (fun vs H Q E h => ?_) (fun cdv A outer s H vs Q E hr h => ?_)
  · obtain ⟨g, _, _, _, h2, _⟩ := h
    rw [h2.len, hlen]
  · obtain ⟨g, F0, B, hp, hv, hO, hQ⟩ := h
    have hl : ps.length ≤ N.length := by have := congrArg List.length S.pre; rw [List.length_take] at this; omega
    refine ⟨_, pss_w, hbody _ B F0 _ g hp (fun v B' H' e1 O1 p1 => hQ v B' H' e1 O1 p1) (fun _ _ h => h) ?_ _ B H (Ex.refl B) (mk_env N _ vs hv (by rw [hlen]; exact hl)) hO⟩
    rw [mk_names]
    exact ⟨rfl, rfl, rfl, rfl, rfl, rfl, rfl, S.nd, fun _ => rfl, fun _ => hr, L2H.roomH_of hr, (fun h => nomatch h), fun _ _ _ => rfl, PassesOwn.never⟩
theorem own_nil {H : Hp} : Own (fun _ => none) [] H H := ⟨List.nodup_nil, fun _ _ h => absurd h (by simp), fun a _ => ⟨.inr rfl, by cases H a <;> rfl⟩⟩
/-- what the law asks of its script -/
def lawC (K : PySem.W.Frag) (n : Nat) : Ct (List Int) := { As := fun ns => [Sk K ns], pre := fun ns => ns.length ≤ n, S := fun _ => Bo true }
theorem law_sp {K : PySem.W.Frag} {n : Nat} {H : Hp} {a : Addr} {ns : List Int} {E : XK} (hl : ns.length ≤ n) (hS : SqL K H a (ns.map V.int)) : (lawC K n).sp [.ref a] H (fun v _ => v = .bl true) E :=
  ⟨ns, fun _ => none, H, hl, .cons ⟨a, rfl, hS⟩ .nil, own_nil, fun _ _ _ _ _ p => p⟩
end ZZ

set_option maxHeartbeats 2000000
/-! Z11: further words: other targets, +=, powers, most and least of a list, sorted, all, gcd, pop, reverse. -/
namespace ZZ
open PySem PySem.Spec PyProof.Rows L2
open Evl (Ex)
theorem All2.snoc {α β : Type} {R : α → β → Prop} {y : β} : ∀ {vs : List α} {xs : List β}, All2 R vs (xs ++ [y]) → ∃ us u, vs = us ++ [u] ∧ All2 R us xs ∧ R u y
  | _, [], .cons h t => by cases t; exact ⟨[], _, rfl, .nil, h⟩
  | _, x :: xs, .cons h t => by
    obtain ⟨us, u, rfl, q1, q2⟩ := All2.snoc (xs := xs) t
    exact ⟨_ :: us, u, rfl, .cons h q1, q2⟩
theorem all_i {B : Hp} : ∀ {vs : List V} {ns : List Int}, All2 (fun v x => (I x).p B v) vs ns → vs = ns.map V.int
  | _, _, .nil => rfl
  | _, n :: _, .cons h t => by rw [all_i t, show _ = V.int n from h]; rfl
theorem all_b {B : Hp} : ∀ {vs : List V} {ns : List Bool}, All2 (fun v x => (Bo x).p B v) vs ns → vs = ns.map V.bl
  | _, _, .nil => rfl
  | _, n :: _, .cons h t => by rw [all_b t, show _ = V.bl n from h]; rfl
theorem All2.rev {α β : Type} {R : α → β → Prop} : ∀ {vs : List α} {xs : List β}, All2 R vs xs → All2 R vs.reverse xs.reverse
  | _, _, .nil => .nil
  | _, _, .cons h t => by
    rw [List.reverse_cons, List.reverse_cons]
    exact t.rev.append (.cons h .nil)
section
variable {c : Cc} {X : Cx} {B0 F : Hp} {D : Ends} {Γ Γ1 : En} {ω ω1 ω2 : Ws} {e a b o tg : Expr} {es : List Expr} {S : Sh} {rest : List Stmt} {pos p px : Pos} {x : Str} {i j : Int} {α : Type} {Rs : α → Sh} {xs : List α} {y : α} {l : Addr} {ns : List Int} {m : Int}
/-- any target -/
theorem ds_asgG {nm : List Str} (he : DE c Γ ω e S ω1) (hg : DG c tg nm S Γ Γ1) (k : DS c X B0 F D Γ1 ω1 rest)
    (hs : ∀ env, swapsWithSole [tg] e pos.line env = pure false := by intro _; rfl) (hw : ∀ env, swappedStores [tg] e env = pure none := by intro _; rfl) (h1 : ∀ env, (assignEach [tg] env).map (·.2) = [assign tg env] := by intro _; rfl) : DS c X B0 F D Γ ω (.Assign [tg] e pos :: rest) := by
  intro fx σ B H hB hE hO
  refine tS.cons (ps_asg pe_w pg_w (hs _) (hw _) (h1 _)) ?_
  refine he X fx F σ B H hE hO _ fun v B1 H1 e1 O1 p1 => ?_
  refine hg.2 X fx σ B1 H1 v (hE.mono e1) O1.ex p1 _ fun σ1 hE1 _ => ?_
  exact k (fx.re hg.1) σ1 B1 H1 (hB.trans e1) hE1 O1
/-- x += e, x -= e, of ints -/
theorem ds_augI {op : Operator} {f : Int → Int → Int} (ho : ∀ X, PIp X op (ipI f)) (hh : Has Γ x (I i)) (he : DE c Γ ω e (I j) ω1) (hp : Put Γ x (some (I (f i j))) Γ1) (k : DS c X B0 F D Γ1 ω1 rest) (hl : Lo c x := by first | exact Or.inl rfl | exact Or.inr ⟨rfl, rfl⟩) :
    DS c X B0 F D Γ ω (.AugAssign (.Name x px) op e pos :: rest) := by
  intro fx σ B H hB hE hO
  obtain ⟨jx, h1, h2⟩ := hp.set
  obtain ⟨ix, v, g1, g2, g3⟩ := hh.get hE
  have ee : ix = jx := nodup_ix fx.nd g1 h1
  subst ee
  refine tS.cons (ps_aug (i := ix) (by rw [fx.ns]; exact fx.nd) (by rw [fx.ns]; exact h1) (fx.lo hl).1 pe_w (ho X) (fx.lo hl).2) ?_
  refine ⟨v, g2, he X fx F σ B H hE hO _ fun u B1 H1 e1 O1 p1 => ⟨i, j, g3, p1, ?_⟩⟩
  exact k (fx.re hp.names) _ B1 H1 (hB.trans e1) (h2 _ _ _ (hE.mono e1) rfl) O1
theorem ds_augAdd (hh : Has Γ x (I i)) (he : DE c Γ ω e (I j) ω1) (hp : Put Γ x (some (I (i + j))) Γ1) (k : DS c X B0 F D Γ1 ω1 rest) (hl : Lo c x := by first | exact Or.inl rfl | exact Or.inr ⟨rfl, rfl⟩) : DS c X B0 F D Γ ω (.AugAssign (.Name x px) .Add e pos :: rest) := ds_augI (f := fun i j => i + j) (fun _ => ip_add) hh he hp k hl
theorem ds_augSub (hh : Has Γ x (I i)) (he : DE c Γ ω e (I j) ω1) (hp : Put Γ x (some (I (i - j))) Γ1) (k : DS c X B0 F D Γ1 ω1 rest) (hl : Lo c x := by first | exact Or.inl rfl | exact Or.inr ⟨rfl, rfl⟩) : DS c X B0 F D Γ ω (.AugAssign (.Name x px) .Sub e pos :: rest) := ds_augI (f := fun i j => i - j) (fun _ => ip_sub) hh he hp k hl
theorem d_pow (ha : DE c Γ ω a (I i) ω1) (hb : DE c Γ ω1 b (I j) ω2) (hc : CPow i j) : DE c Γ ω (.BinOp a .Pow b pos) (I (i ^ j.toNat)) ω2 := d_bin (fun _ => op_pow) ha hb (rr_I hc)
theorem d_maxL [Cold c] (ha : DE c Γ ω a (L I ns) ω1) (hm1 : m ∈ ns) (hm2 : ∀ y ∈ ns, y ≤ m) (hm : c.M.mg "max" = none) (hg : Glo c.sc "max" := by exact rfl) (he : ∀ env, starEach [a] env = (false, eval a env) :: starEach [] env := by intro _; rfl) : DE c Γ ω (.Call (.Name "max" p) [a] [] pos) (I m) ω1 :=
  d_callB (r := rMax c.M.K) (fun X fx => by rw [← fx.K]; exact cr_max fx.calm) hg hm PyProof.Rows.boot_max (a_cons ha a_nil he) (rc1 fun F ω B H v hv O Q q => by
    obtain ⟨a1, us, rfl, g1, g2⟩ := sq_get hv O.ex
    have e : us = ns.map V.int := all_i g2
    subst e
    exact ⟨a1, ns, rfl, SqL.of g1, List.length_pos_of_mem hm1, fun z hz hz2 => by
      have e : z = m := Int.le_antisymm (hm2 z hz) (hz2 m hm1)
      subst e
      exact q _ B H (Ex.refl B) O rfl⟩) (he := he)
theorem d_minL [Cold c] (ha : DE c Γ ω a (L I ns) ω1) (hm1 : m ∈ ns) (hm2 : ∀ y ∈ ns, m ≤ y) (hm : c.M.mg "min" = none) (hg : Glo c.sc "min" := by exact rfl) (he : ∀ env, starEach [a] env = (false, eval a env) :: starEach [] env := by intro _; rfl) : DE c Γ ω (.Call (.Name "min" p) [a] [] pos) (I m) ω1 :=
  d_callB (r := rMin c.M.K) (fun X fx => by rw [← fx.K]; exact cr_min fx.calm) hg hm PyProof.Rows.boot_min (a_cons ha a_nil he) (rc1 fun F ω B H v hv O Q q => by
    obtain ⟨a1, us, rfl, g1, g2⟩ := sq_get hv O.ex
    have e : us = ns.map V.int := all_i g2
    subst e
    exact ⟨a1, ns, rfl, SqL.of g1, List.length_pos_of_mem hm1, fun z hz hz2 => by
      have e : z = m := Int.le_antisymm (hz2 m hm1) (hm2 z hz)
      subst e
      exact q _ B H (Ex.refl B) O rfl⟩) (he := he)
theorem d_allB [Cold c] {bs : List Bool} (ha : DE c Γ ω a (L Bo bs) ω1) (hm : c.M.mg "all" = none) (hg : Glo c.sc "all" := by exact rfl) (he : ∀ env, starEach [a] env = (false, eval a env) :: starEach [] env := by intro _; rfl) : DE c Γ ω (.Call (.Name "all" p) [a] [] pos) (Bo (bs.all id)) ω1 :=
  d_callB (r := rAll c.M.K) (fun X fx => by rw [← fx.K]; exact cr_all fx.calm) hg hm (by decide +kernel) (a_cons ha a_nil he) (rc1 fun F ω B H v hv O Q q => by
    obtain ⟨a1, us, rfl, g1, g2⟩ := sq_get hv O.ex
    have e : us = bs.map V.bl := all_b g2
    subst e
    exact ⟨a1, bs, rfl, SqL.of g1, q _ B H (Ex.refl B) O rfl⟩) (he := he)
theorem n_sorted (ha : DE c Γ ω a (L I ns) ω1) (hm : c.M.mg "sorted" = none) (hg : Glo c.sc "sorted" := by exact rfl) (he : ∀ env, starEach [a] env = (false, eval a env) :: starEach [] env := by intro _; rfl) :
    DNE c Γ ω (.Call (.Name "sorted" p) [a] [] pos) (fun ys => ys.Perm ns ∧ ys.Pairwise (· ≤ ·)) I ω1 := by
  intro X fx F σ B H hE hO Q hQ
  refine tW.of (pe_callB cr_sortedI (gl_of fx hg) (by rw [fx.mg]; exact hm) (by decide +kernel) pa_w (he := he _)) ?_
  refine a_cons ha a_nil he X fx F σ B H hE hO _ fun vs B1 H1 e1 O1 p1 => ?_
  obtain ⟨v, rfl, hv⟩ := all1 p1
  obtain ⟨a1, us, rfl, g1, g2⟩ := sq_get hv O1.ex
  have e : us = ns.map V.int := all_i g2
  subst e
  refine ⟨a1, ns, rfl, SqL.of g1, fun ys l h1 h2 hl => ?_⟩
  exact hQ l ys _ _ ⟨h1, h2⟩ e1 (O1.add hl (C := Cl I ys) ⟨_, rfl, all_ints ys⟩)
theorem d_gcd (ha : DE c Γ ω a (I i) ω1) (hb : DE c Γ ω1 b (I j) ω2) (hm : c.M.mg x = some (.builtin "math.gcd")) (hg : Glo c.sc x := by exact rfl) (hdb : (x == ("__debug__" : Str)) = false := by decide) (he : ∀ env, starEach [a, b] env = (false, eval a env) :: starEach [b] env := by intro _; rfl)
    (he2 : ∀ env, starEach [b] env = (false, eval b env) :: starEach [] env := by intro _; rfl) (hpl : ∀ env, (backTo pos (starEach [b] env)).any (·.1) = false := by intro _; rfl) : DE c Γ ω (.Call (.Name x p) [a, b] [] pos) (I ((Nat.gcd i.natAbs j.natAbs : Nat) : Int)) ω2 := by
  intro X fx F σ B H hE hO Q hQ
  refine tW.of (pe_callBfun cr_gcd (gl_of fx hg) (by rw [fx.mg]; exact hm) pa_w hdb (he _) (hpl _)) ?_
  refine a_cons ha (a_cons hb a_nil he2) he X fx F σ B H hE hO _ fun vs B1 H1 e1 O1 p1 => ?_
  obtain ⟨v, u, rfl, h1, h2⟩ := all2 p1
  exact ⟨i, j, by rw [show v = V.int i from h1, show u = V.int j from h2], hQ _ B1 H1 e1 O1 rfl⟩
/-- xs.pop() of an owned list -/
theorem d_pop {apos cpos : Pos} (ho : DE c Γ ω o (At l) ω) (hs : Swp ω l (Cl Rs (xs ++ [y])) (Cl Rs xs) ω1) (hb : ∀ env, attributeBase o "pop" env (eval o env) = eval o env := by intro _; rfl) (hln : (apos.endLine == cpos.line) = true := by rfl) :
    DE c Γ ω (.Call (.Attribute o "pop" apos) [] [] cpos) (Rs y) ω1 := by
  intro X fx F σ B H hE hO Q hQ
  refine tW.of (pe_bm0 PySem.F.plainAttrs_list PySem.F.slot_list_pop PySem.F.type_list_pop mt_pop pe_w (hb _) hln) ?_
  refine ho X fx F σ B H hE hO _ fun v B1 H1 e1 O1 p1 => ?_
  have p1 : v = .ref l := p1
  subst p1
  obtain ⟨_, _, o', h2, us, rfl, h3⟩ := O1.ow _ _ hs.mem
  obtain ⟨vs, u, rfl, q1, q2⟩ := h3.snoc
  refine ⟨.inl ⟨rfl, _, SqL.of h2⟩, l, _, u, rfl, rfl, h2, by simp, ?_⟩
  rw [List.dropLast_concat]
  exact hQ u B1 _ e1 (O1.swp hs ⟨_, rfl, q1⟩) q2
/-- xs.reverse() of an owned list -/
theorem ds_rev {apos cpos : Pos} (ho : DE c Γ ω o (At l) ω) (hs : Swp ω l (Cl Rs xs) (Cl Rs xs.reverse) ω1) (k : DS c X B0 F D Γ ω1 rest) (hb : ∀ env, attributeBase o "reverse" env (eval o env) = eval o env := by intro _; rfl) (hln : (apos.endLine == cpos.line) = true := by rfl)
    (hsw : ∀ env, swapsWith (.Call (.Attribute o "reverse" apos) [] [] cpos) none pos.line env = pure false := by intro _; rfl) : DS c X B0 F D Γ ω (.Expr (.Call (.Attribute o "reverse" apos) [] [] cpos) pos :: rest) := by
  intro fx σ B H hB hE hO
  refine tS.cons (ps_expr (pe_bm0 PySem.F.plainAttrs_list PySem.F.slot_list_reverse PySem.F.type_list_reverse mt_reverse pe_w (hb _) hln) (hsw _)) ?_
  refine ho X fx F σ B H hE hO _ fun v B1 H1 e1 O1 p1 => ?_
  have p1 : v = .ref l := p1
  subst p1
  obtain ⟨_, _, o', h2, us, rfl, h3⟩ := O1.ow _ _ hs.mem
  refine ⟨.inl ⟨rfl, _, SqL.of h2⟩, l, _, rfl, rfl, h2, ?_⟩
  exact k fx σ B1 _ (hB.trans e1) (hE.mono e1) (O1.swp hs ⟨_, rfl, h3.rev⟩)
/-- break: what comes behind the loop -/
theorem ds_brkF {D' : Ends} {rst : List Stmt} (hD : D.bk = tS X rst D') (k : DS c X B0 F D' Γ ω rst) : DS c X B0 F D Γ ω (.Break pos :: rest) := by
  intro fx σ B H hB hE hO
  refine ds_brk (fun σ' B' H' h1 h2 h3 => ?_) fx σ B H hB hE hO
  rw [hD]
  exact k fx σ' B' H' h1 h2 h3
end
end ZZ

set_option maxHeartbeats 2000000
/-! Z12: sum and sorted of a tuple. -/
namespace ZZ
open PySem PySem.Spec PyProof.Rows L2
open Evl (Ex)
def rSumB (bb : Bool) : List V → Hp → VK → Prop := fun vs H Q => ∃ (a : Addr) (ns : List Int), vs = [V.ref a] ∧ H a = some (hoB bb (ns.map V.int)) ∧ Q (.int ns.sum) H
theorem cr_sumT {X : Cx} (hc : X.calm = true) : CallR X (.builtin "sum") (rSumB false) := by
  intro pins s σ H vs us Q I r h
  obtain ⟨a, ns, rfl, hs, q⟩ := h
  obtain ⟨its, rv, ht, _⟩ := src_ob I hs
  rw [Vals.ref1 r]
  have ht : s.heap.IsTuple a its.toArray := ht
  obtain ⟨xs, e⟩ := rv.ints.allInts.items
  have hn : numsOf (intItems xs).toList = ns := e ▸ rv.ints.numsOf
  rw [nums_intItems] at hn
  rw [e] at ht
  refine PySem.W.ktm_sumG (I.ok.hd hc) ht fun h' tk t' hk => ⟨.int _, H, I.kept hk, ⟨_, rfl⟩, ?_⟩
  have e2 : preSum (numAt xs) xs.size = ns.sum := by
    rw [preSum_eq, List.take_of_length_le (by simp)]
    exact congrArg List.sum hn
  rw [e2]
  exact q
section
variable {c : Cc} {Γ : En} {ω ω1 : Ws} {a : Expr} {pos p : Pos} {bb : Bool} {ns : List Int}
theorem d_sumB [Cold c] (ha : DE c Γ ω a (Sq bb I ns) ω1) (hm : c.M.mg "sum" = none) (hg : Glo c.sc "sum" := by exact rfl) (he : ∀ env, starEach [a] env = (false, eval a env) :: starEach [] env := by intro _; rfl) : DE c Γ ω (.Call (.Name "sum" p) [a] [] pos) (I ns.sum) ω1 := by
  cases bb with
  | true => exact d_sum ha hm hg he
  | false =>
    refine d_callB (r := rSumB false) (fun X fx => cr_sumT fx.calm) hg hm PyProof.Rows.boot_sum (a_cons ha a_nil he) (rc1 fun F ω B H v hv O Q q => ?_) (he := he)
    obtain ⟨a1, us, rfl, g1, g2⟩ := sq_ho hv
    have e := all_i g2
    subst e
    exact ⟨a1, ns, rfl, O.ex _ _ g1, q _ B H (Ex.refl B) O rfl⟩
end
/-! ### sorted of a tuple of numbers -/
def rSortedB (bb : Bool) : List V → Hp → VK → Prop := fun vs H Q => ∃ (a : Addr) (ns : List Int), vs = [V.ref a] ∧ H a = some (hoB bb (ns.map V.int)) ∧ ∀ (ys : List Int) (l : Addr), ys.Perm ns → ys.Pairwise (· ≤ ·) → H l = none → Q (.ref l) (upd H l (.lst (ys.map V.int)))
theorem cr_sortedT {X : Cx} : CallR X (.builtin "sorted") (rSortedB false) := by
  intro pins s σ H vs us Q I r h
  obtain ⟨a, ns, rfl, hs, q⟩ := h
  obtain ⟨its, rv, ht, hz⟩ := src_ob I hs
  rw [Vals.ref1 r]
  have hz2 : its.length ≤ sizeLine := by rw [← rv.length]; exact hz
  obtain ⟨o, ho, hcls, n, hd⟩ := (show s.heap.IsTuple a its.toArray from ht)
  have hi := rv.ints
  refine Calls.call_function_entry kind_sorted plain_sorted entry_sorted (args_sorted1 _) (show wpAny _ _ (Builtin.«sorted» _) _ _ _ from ?_)
  unfold Builtin.«sorted»
  refine wpAny_bind (m := checkCount "sorted" 1 1 _) (wpAny_pure (wpAny_bind (wpAny_collect_seq a (.inr rfl) ho hcls hd (fun h1 k1 => ?_) (by rw [List.size_toArray]; exact hz2))))
  refine wpAny_bind (wpAny_newList ?_ hz2)
  have g1 : (h1.push (seqObj "list" its.toArray 0)).get? h1.objs.size = some (seqObj "list" its.toArray 0) := Heap.get?_push_size _ rfl
  refine wpAny_bind (wpAny_holding (wpAny_call_entry slot_list_sort ⟨_, g1, rfl⟩ entry_list_sort (SrtO.list_sort_ord SrtO.swo_int g1 hz2 (fun h2 => SrtO.ints_sortable hi h2) fun out hs hb => ⟨_, rfl, ?_⟩) (args_list_sort _)))
  refine wpAny_pure ?_
  obtain ⟨q1, q2, q3⟩ := SrtO.ints_out hi hs hb
  obtain ⟨ep, he'⟩ := sortedHeap_at (vs := its) (out := out.toArray) g1
  have I1 : Inv X pins σ H { s with heap := h1, toks := s.toks } := I.kept k1
  have hlen : ((out.map SrtO.iv).map V.int).length ≤ sizeLine := by
    rw [List.length_map, q2.length_eq, ← List.length_map (f := V.int)]
    exact hz
  have old : ∀ b u, h1.get? b = some u → (sortedHeap (h1.push (seqObj "list" its.toArray 0)) h1.objs.size its out.toArray).get? b = some u := fun b u e => by
    have hb := Heap.lt_size e
    rw [sortedHeap_old (Nat.ne_of_lt hb) (by rw [size_push']; exact Nat.lt_succ_of_lt hb)]
    exact Heap.get?_push_of_some _ e
  exact ⟨_, rfl, .ref _, upd H h1.objs.size (.lst ((out.map SrtO.iv).map V.int)), I1.laid (t' := s.toks) old (Nat.le_refl _) ⟨hlen, out, ep, vals_of_ints q1, he'⟩, rfl, q _ _ q2 q3 (I1.hok.fresh (Nat.le_refl _))⟩
theorem n_sortedB {c : Cc} {Γ : En} {ω ω1 : Ws} {a : Expr} {pos p : Pos} {bb : Bool} {ns : List Int} (ha : DE c Γ ω a (Sq bb I ns) ω1) (hm : c.M.mg "sorted" = none) (hg : Glo c.sc "sorted" := by exact rfl) (he : ∀ env, starEach [a] env = (false, eval a env) :: starEach [] env := by intro _; rfl) :
    DNE c Γ ω (.Call (.Name "sorted" p) [a] [] pos) (fun ys => ys.Perm ns ∧ ys.Pairwise (· ≤ ·)) I ω1 := by
  cases bb with
  | true => exact n_sorted ha hm hg he
  | false =>
    intro X fx F σ B H hE hO Q hQ
    refine tW.of (pe_callB cr_sortedT (gl_of fx hg) (by rw [fx.mg]; exact hm) (by decide +kernel) pa_w (he := he _)) ?_
    refine a_cons ha a_nil he X fx F σ B H hE hO _ fun vs B1 H1 e1 O1 p1 => ?_
    obtain ⟨v, rfl, hv⟩ := all1 p1
    obtain ⟨a1, us, rfl, g1, g2⟩ := sq_ho hv
    have e := all_i g2
    subst e
    refine ⟨a1, ns, rfl, O1.ex _ _ g1, fun ys l h1 h2 hl => ?_⟩
    exact hQ l ys _ _ ⟨h1, h2⟩ e1 (O1.add hl (C := Cl I ys) ⟨_, rfl, all_ints ys⟩)
end ZZ

set_option maxHeartbeats 2000000
/-! Z13: comprehensions with a test, branches that meet up to a word, the pool. -/
namespace ZZ
open PySem PySem.Spec PyProof.Rows L2
open Evl (Ex)
section
variable {c : Cc} {X : Cx} {B0 F : Hp} {D : Ends} {Γ Γw Γ0 Γ1 : En} {ω ω1 : Ws} {tg it elt t e : Expr} {ifs : List Expr} {scope : Scope} {own : List (Str × Nat)} {α β : Type} {W : Nat → β → Prop} {Rb : β → Sh} {R : α → Sh} {n : Nat} {pos spos py p : Pos} {y x : Str} {rest a b : List Stmt}
/-- [elt for tg in it if t], the items by place -/
theorem n_lcF [Cold c] {ys : List β} (f : β → α) (pr : β → Bool) (ok : BlkOk (Γ.map (·.1)) c.sc scope own) (hw : Wip Γ own Γw) (hi : DI c Γ ω tg it n W Rb ω1) (hn : ys.length = n) (hW : ∀ i y, i < n → W i y → ys[i]? = some y) (hz : n < sizeLine)
    (hb : ∀ i y, i < n → W i y → ∃ Γb ns, DG ⟨c.M, relS scope c.sc, c.k, false, false⟩ tg ns (Rb y) Γw Γb ∧ (∀ x ∈ ns, x ∈ own.map (·.1)) ∧ DT ⟨c.M, relS scope c.sc, c.k, false, false⟩ Γb ω1 t (· = pr y) ω1 ∧ (pr y = true → DE ⟨c.M, relS scope c.sc, c.k, false, false⟩ Γb ω1 elt (R (f y)) ω1))
    (hs : ∀ env x, foldedSetIterable it env x = pure x := by intro _ _; rfl) : DN c Γ ω (.ListComp elt [⟨tg, it, [t], 0⟩] scope pos) R ((ys.filter pr).map f) ω1 := by
  refine DNE.dn ?_
  have h := n_lc (R := R) (pos := pos) (ifs := [t]) (elt := elt) ok hw hi (fun i zs => zs = ((ys.take i).filter pr).map f) (by simp) hz (.inr ⟨t, rfl⟩) (fun i y zs hi hy hJ => ?_) hs
  · have e : (fun zs : List α => zs = ((ys.take n).filter pr).map f) = (· = (ys.filter pr).map f) := by
      funext zs
      rw [List.take_of_length_le (by omega)]
    rw [e] at h
    exact h
  · obtain ⟨Γb, ns, hg, hs, ht, he⟩ := hb i y hi hy
    have hy' := hW i y hi hy
    refine ⟨Γb, ns, (· = pr y), hg, hs, ht, fun q => (he q.symm).wide fun B v z => ⟨f y, ?_, z⟩, fun q => ?_⟩
    · rw [hJ, List.take_add_one, hy', Option.toList_some, List.filter_append, List.map_append]
      simp [List.filter, ← q]
    · rw [hJ, List.take_add_one, hy', Option.toList_some, List.filter_append, List.map_append]
      simp [List.filter, ← q]
/-- x = [elt for tg in it] on one line -/
theorem ds_lcM [Cold c] (zs : List α) (ok : BlkOk (Γ.map (·.1)) c.sc scope own) (hw : Wip Γ own Γw) (hi : DI c Γ ω tg it n W Rb ω1) (hn : zs.length = n) (hz : n < sizeLine)
    (hb : ∀ i y z, W i y → zs[i]? = some z → ∃ Γb ns, DG ⟨c.M, relS scope c.sc, c.k, false, false⟩ tg ns (Rb y) Γw Γb ∧ (∀ x ∈ ns, x ∈ own.map (·.1)) ∧ DE ⟨c.M, relS scope c.sc, c.k, false, false⟩ Γb ω1 elt (R z) ω1)
    (hp : Put Γ y none Γ0) (k : ∀ l, ∃ Γ1, Put Γ y (some (At l)) Γ1 ∧ DS c X B0 F D Γ1 (ω1 ++ [(l, Cl R zs)]) rest)
    (hyl : c.sc.names.lookup y = some .local := by exact rfl) (hk : c.sc.kind = .function := by exact rfl) (hln : (py.line == spos.line) = true := by rfl) (hpl : (py.line == pos.line) = true := by rfl) (ha : (scope.names.any fun (n, k) => n == y && (k == .local || k == .cell)) = false := by decide +kernel)
    (hs : ∀ env x, foldedSetIterable it env x = pure x := by intro _ _; rfl) : DS c X B0 F D Γ ω (.Assign [.Name y py] (.ListComp elt [⟨tg, it, [], 0⟩] scope pos) spos :: rest) := by
  refine ds_lc (R := R) (ifs := []) (elt := elt) ok hw hi (fun i ys => ys = zs.take i) (by simp) hz (.inl rfl) (fun i y ys hi hy hJ => ?_) hp (fun l ys hJ => ?_) hyl hk hln hpl ha hs
  · have hz : zs[i]? = some zs[i] := List.getElem?_eq_getElem (by omega)
    obtain ⟨Γb, ns, hg, hs, he⟩ := hb i y _ hy hz
    refine ⟨Γb, ns, (· = true), hg, hs, rfl, fun _ => he.wide fun B v q => ⟨zs[i], ?_, q⟩, fun z => nomatch z⟩
    rw [hJ, List.take_add_one, hz]
    rfl
  · rw [hJ, List.take_of_length_le (by omega)]
    exact k l
/-- an if whose branches meet again, up to a word -/
theorem ds_ifR {R' : Bool → Prop} (J : En → Ws → Prop) (ht : DT c Γ ω t R' ω1) (ha : R' true → DS c X B0 F { D with nx := Jn (Γ.map (·.1)) B0 F J } Γ ω1 a) (hb : R' false → DS c X B0 F { D with nx := Jn (Γ.map (·.1)) B0 F J } Γ ω1 b)
    (hk : ∀ Γj ωj, J Γj ωj → Γj.map (·.1) = Γ.map (·.1) → DS c X B0 F D Γj ωj rest) : DS c X B0 F D Γ ω (.If t a b pos :: rest) := by
  have key : ∀ (sts : List Stmt), (DS c X B0 F { D with nx := Jn (Γ.map (·.1)) B0 F J } Γ ω1 sts) → DS c X B0 F { D with nx := tS X rest D } Γ ω1 sts := fun sts h fx σ B H hB hE hO =>
    tS.nx (D := { D with nx := tS X rest D }) (h fx σ B H hB hE hO) fun σ' H' q => by
      obtain ⟨Γi, ωi, B', hJ, q1, q2, q3, q4⟩ := q
      exact hk Γi ωi hJ q1 (fx.re q1) σ' B' H' q2 q3 q4
  exact ds_if ht (fun h => key _ (ha h)) (fun h => key _ (hb h))
end
/-! ### the pool -/
abbrev po (p : Addr) : Addr × Co := (p, potQ)
def pd : Ct (Addr × Int) := { As := fun g => [At g.1, I g.2], pre := fun g => 0 < g.2, S := fun g => Ei (fun r => 0 ≤ r ∧ r < g.2), ω := fun g => [po g.1], ω' := fun g => [po g.1] }
theorem flat_po {p : Addr} : ∀ e ∈ ([po p] : Ws), Flat e.2 := fun e he => by rw [List.mem_singleton.mp he]; exact flat_potQ
section
variable {c : Cc} {Γ Γ0 : En} {ω ω1 rest : Ws} {e a b : Expr} {es : List Expr} {x : Str} {p : Addr} {pos px : Pos} {S : Sh} {m : Int} {k : Nat} {P : Int → Prop}
/-- a call that draws of the pool; the arguments may be known up to a word -/
theorem p_callX [Cold c] {τ : Type} {t : Ct τ} {ps : List Str} {ss : List Sh} (G : Gd c.M k x ps t) (hk : k ≤ c.k) (ha : DA c Γ ω (e :: es) ss (po p :: rest))
    (h : ∀ B vs, All2 (fun v (s : Sh) => s.p B v) vs ss → ∃ g, t.pre g ∧ All2 (fun v (s : Sh) => s.p B v) vs (t.As g) ∧ t.ω g = [po p] ∧ t.ω' g = [po p] ∧ Sle (t.S g) S)
    (hg : Glo c.sc x := by exact rfl) (hdb : (x == ("__debug__" : Str)) = false := by decide) (he : ∀ env, starEach (e :: es) env = (false, eval e env) :: starEach es env := by intro _; rfl) (hpl : ∀ env, (backTo pos (starEach es env)).any (·.1) = false := by intro _; rfl) :
    DE c Γ ω (.Call (.Name x px) (e :: es) [] pos) S (po p :: rest) := by
  obtain ⟨f, fd, hF, hm, hkp, hb'⟩ := G
  intro X fx F σ B H hE hO Q hQ
  have hF' : FnOk X.prog X.w X.K X.mg X.base CX0 k f fd ps t.sp := by rw [fx.prog, fx.w, fx.K, fx.mg, fx.base]; exact hF
  refine tW.of (pe_call (ds := []) (dvs := []) (E := E0) hF' (fx.room.mono hk) (gl_of fx hg) (by rw [fx.mg]; exact hm) (by rw [fx.K]; exact hkp) (by rw [fx.K]; exact hb') .nil pass0 pa_w hdb (he _) (hpl _)) ?_
  refine ha X fx F σ B H hE hO _ fun vs B1 H1 e1 O1 p1 => ?_
  obtain ⟨g, h1, h2, h3, h4, h5⟩ := h B1 vs p1
  refine ⟨g, frame F rest H1, B1, h1, by rw [List.append_nil]; exact h2, by rw [h3]; exact (show Own F ([po p] ++ rest) B1 H1 from O1).focus, fun v B' H' e2 O2 p2 => ?_⟩
  rw [h4] at O2
  exact hQ v B' H' (e1.trans e2) ((show Own F ([po p] ++ rest) B1 H1 from O1).unfocus e2 O2 rfl) (h5 _ _ p2)
theorem p_callK [Cold c] {τ : Type} {t : Ct τ} {ps : List Str} {ss : List Sh} (g : τ) (G : Gd c.M k x ps t) (hk : k ≤ c.k) (ha : DA c Γ ω (e :: es) ss (po p :: rest)) (hs : ss = t.As g) (hp : t.pre g) (h3 : t.ω g = [po p] := by rfl) (h4 : t.ω' g = [po p] := by rfl)
    (hg : Glo c.sc x := by exact rfl) (hdb : (x == ("__debug__" : Str)) = false := by decide) (he : ∀ env, starEach (e :: es) env = (false, eval e env) :: starEach es env := by intro _; rfl) (hpl : ∀ env, (backTo pos (starEach es env)).any (·.1) = false := by intro _; rfl) :
    DE c Γ ω (.Call (.Name x px) (e :: es) [] pos) (t.S g) (po p :: rest) :=
  p_callX G hk ha (fun B vs h => ⟨g, hp, hs ▸ h, h3, h4, Sle.refl⟩) hg hdb he hpl
theorem p_draw [Cold c] (G : Gd c.M k x ["pool", "many"] pd) (hk : k ≤ c.k) (ha : DE c Γ (po p :: rest) a (At p) (po p :: rest)) (hb : DE c Γ (po p :: rest) b (I m) (po p :: rest)) (h : 0 < m)
    (hg : Glo c.sc x := by exact rfl) (hdb : (x == ("__debug__" : Str)) = false := by decide) (he : ∀ env, starEach [a, b] env = (false, eval a env) :: starEach [b] env := by intro _; rfl) (he2 : ∀ env, starEach [b] env = (false, eval b env) :: starEach [] env := by intro _; rfl) (hpl : ∀ env, (backTo pos (starEach [b] env)).any (·.1) = false := by intro _; rfl) :
    DE c Γ (po p :: rest) (.Call (.Name x px) [a, b] [] pos) (Ei fun r => 0 ≤ r ∧ r < m) (po p :: rest) :=
  p_callK (t := pd) (p, m) G hk (a_cons ha (a_cons hb a_nil he2) he) rfl h rfl rfl hg hdb he hpl
theorem p_drawE [Cold c] (G : Gd c.M k x ["pool", "many"] pd) (hk : k ≤ c.k) (ha : DE c Γ (po p :: rest) a (At p) (po p :: rest)) (hb : DE c Γ (po p :: rest) b (Ei P) (po p :: rest)) (h : ∀ m, P m → 0 < m)
    (hg : Glo c.sc x := by exact rfl) (hdb : (x == ("__debug__" : Str)) = false := by decide) (he : ∀ env, starEach [a, b] env = (false, eval a env) :: starEach [b] env := by intro _; rfl) (he2 : ∀ env, starEach [b] env = (false, eval b env) :: starEach [] env := by intro _; rfl) (hpl : ∀ env, (backTo pos (starEach [b] env)).any (·.1) = false := by intro _; rfl) :
    DE c Γ (po p :: rest) (.Call (.Name x px) [a, b] [] pos) (Ei fun r => ∃ m, P m ∧ 0 ≤ r ∧ r < m) (po p :: rest) :=
  p_callX (t := pd) G hk (a_cons ha (a_cons hb a_nil he2) he) (fun B vs h' => by
    obtain ⟨v, u, rfl, h1, m, hm, h2⟩ := all2 h'
    exact ⟨(p, m), h m hm, .cons h1 (.cons h2 .nil), rfl, rfl, fun B v z => by
      obtain ⟨y, hy, z⟩ := z
      exact ⟨y, ⟨m, hm, hy⟩, z⟩⟩) hg hdb he hpl
/-! ### a new pool -/
def RtQ (B0 F : Hp) (rt : VK) : Prop := ∀ p B H, Ex B0 B → Own F [po p] B H → rt (.ref p) H
theorem ds_retQ {X : Cx} {B0 F : Hp} {D : Ends} {xs : List Int} {rst : List Stmt} (hR : RtQ B0 F D.rt) (he : DE c Γ ω e (At p) [(p, Cl I xs)]) : DS c X B0 F D Γ ω (.Return (some e) pos :: rst) := by
  intro fx σ B H hB hE hO
  refine tS.cons (ps_ret pe_w) ?_
  refine he X fx F σ B H hE hO _ fun v B1 H1 e1 O1 p1 => ?_
  rw [show v = V.ref p from p1]
  exact hR p B1 H1 (hB.trans e1) (O1.close .z fun B o z => ⟨xs, trivial, z⟩)
def spPool (K : PySem.W.Frag) (n : Nat) : Sp := fun vs H Q _ => ∃ (F B : Hp) (ns : List Int) (m : Int), (ns.length ≤ n ∧ 0 ≤ m ∧ m ≤ 1000) ∧ All2 (fun v (s : Sh) => s.p B v) vs [Sk K ns, I m] ∧ Own F [] B H ∧ ∀ p B' H', Ex B B' → Own F [po p] B' H' → Q (.ref p) H'
def Gq (M : Mo) (k : Nat) (x : Str) (n : Nat) (ps : List Str) : Prop :=
  ∃ (f : Addr) (fd : FuncData), FnOk M.P M.w M.K M.mg M.base CX0 k f fd ps (spPool M.K n) ∧ M.mg x = some (.ref f) ∧ PySem.W.keepIn M.K (.ref f) = true ∧ Binds M.K fd ps []
theorem Pr.gq {M : Mo} {k n : Nat} {x : Str} {st : Stmt} {N : List Str} {s u : Str} (P : Pr M x st [s, u]) (S : FnScope N [s, u] (defScope st))
    (hbody : ∀ (X : Cx) (B0 F0 : Hp) (D : Ends) (ns : List Int) (m : Int), ns.length ≤ n ∧ 0 ≤ m ∧ m ≤ 1000 → RtQ B0 F0 D.rt → DS ⟨M, defScope st, k, true, false⟩ X B0 F0 D (mkΓ N [Sk M.K ns, I m]) [] (defBody st)) : Gq M (k + 1) x n [s, u] := by
  obtain ⟨f, fd, F, hm, hb⟩ := P
  refine ⟨f, fd, F.ok S (fun vs H Q E h => ?_) (fun cdv A outer s H vs Q E hr h => ?_), hm, F.kp, hb⟩
  · obtain ⟨_, _, ns, m, _, h2, _⟩ := h
    rw [h2.len]; rfl
  · obtain ⟨F0, B, ns, m, hn, hv, hO, hQ⟩ := h
    have hl : [Sk M.K ns, I m].length ≤ N.length := by have := congrArg List.length S.pre; rw [List.length_take] at this; simp at this ⊢; omega
    refine ⟨_, pss_w, hbody _ B F0 _ ns m hn (fun p B' H' e1 O1 => hQ p B' H' e1 O1) ?_ _ B H (Ex.refl B) (mk_env N _ vs hv hl) hO⟩
    rw [mk_names]
    exact ⟨rfl, rfl, rfl, rfl, rfl, rfl, rfl, S.nd, fun _ => rfl, fun _ => hr, L2H.roomH_of hr, (fun h => nomatch h), fun _ _ _ => rfl, PassesOwn.never⟩
theorem ds_pool [Cold c] {X : Cx} {B0 F : Hp} {D : Ends} {rst : List Stmt} {n : Nat} {y s u : Str} {ns : List Int} {pc : Pos} (G : Gq c.M k y n [s, u]) (hk : k ≤ c.k) (ha : DE c Γ [] a (Sk c.M.K ns) []) (hb : DE c Γ [] b (I m) []) (hn : ns.length ≤ n ∧ 0 ≤ m ∧ m ≤ 1000) (hp : Put Γ x none Γ0) (K : ∀ p, ∃ Γ1, Put Γ x (some (At p)) Γ1 ∧ DS c X B0 F D Γ1 [po p] rst)
    (hl : Lo c x := by first | exact Or.inl rfl | exact Or.inr ⟨rfl, rfl⟩) (hg : Glo c.sc y := by exact rfl) (hdb : (y == ("__debug__" : Str)) = false := by decide) (he : ∀ env, starEach [a, b] env = (false, eval a env) :: starEach [b] env := by intro _; rfl) (he2 : ∀ env, starEach [b] env = (false, eval b env) :: starEach [] env := by intro _; rfl) (hpl : ∀ env, (backTo pc (starEach [b] env)).any (·.1) = false := by intro _; rfl)
    (hs : ∀ env, swapsWithSole [.Name x px] (.Call (.Name y pf) [a, b] [] pc) pos.line env = pure false := by intro _; rfl) (hw : ∀ env, swappedStores [.Name x px] (.Call (.Name y pf) [a, b] [] pc) env = pure none := by intro _; rfl) : DS c X B0 F D Γ [] (.Assign [.Name x px] (.Call (.Name y pf) [a, b] [] pc) pos :: rst) := by
  intro fx σ B H hB hE hO
  obtain ⟨f, fd, hF, hm, hkp, hb'⟩ := G
  obtain ⟨j, hj⟩ := hp.ix
  refine tS.cons (ps_asg pe_w (pg_name (i := j) (by rw [fx.ns]; exact fx.nd) (by rw [fx.ns]; exact hj) (fx.lo hl).1 (fx.lo hl).2) (hs _) (hw _) (by rfl)) ?_
  have hF' : FnOk X.prog X.w X.K X.mg X.base CX0 k f fd [s, u] (spPool c.M.K n) := by rw [fx.prog, fx.w, fx.K, fx.mg, fx.base]; exact hF
  refine tW.of (pe_call (ds := []) (dvs := []) (E := E0) hF' (fx.room.mono hk) (gl_of fx hg) (by rw [fx.mg]; exact hm) (by rw [fx.K]; exact hkp) (by rw [fx.K]; exact hb') .nil pass0 pa_w hdb (he _) (hpl _)) ?_
  refine a_cons ha (a_cons hb a_nil he2) he X fx F σ B H hE hO _ fun vs B1 H1 e1 O1 p1 => ?_
  refine ⟨F, B1, ns, m, hn, by rw [List.append_nil]; exact p1, O1, fun p' B2 H2 e2 O2 => ?_⟩
  obtain ⟨Γ1, hp', K⟩ := K p'
  obtain ⟨j', h1, h2⟩ := hp'.set
  have e : j' = j := nodup_ix fx.nd h1 hj
  subst e
  exact K (fx.re hp'.names) _ B2 H2 (hB.trans (e1.trans e2)) (h2 _ _ _ (hE.mono (e1.trans e2)) rfl) O2
end
end ZZ

set_option maxHeartbeats 2000000
/-! Z14: own errors that carry one word: made, raised, caught. -/
namespace ZZ
open PySem PySem.Spec PyProof.Rows L2
open Evl (Ex)
/-- __init__(self, word): self.word = word -/
def spI (K : PySem.W.Frag) (fld : Str) : Sp := fun vs H Q _ => ∃ (a C : Addr) (v : V), vs = [.ref a, v] ∧ OexC K C ∧ PySem.W.findIn K (.ref C) fld = some none ∧ H a = some (exo a C none) ∧ ∀ dx, H dx = none → dx ≠ a → Q .non (upd (upd H dx (exd dx [(fld, v)])) a (exo a C (some dx)))
theorem fn_init {P : Program} {w : World} {K : PySem.W.Frag} {mg : Str → Option Value} {base : Heap} {qual fld par : Str} {st : Stmt} {f : Addr} {fd : FuncData} {k : Nat} {q1 q2 q3 q4 : Pos} (F : Fun K "__init__" qual st f fd) (S : FnScope ["self", par] ["self", par] (defScope st)) (hb : defBody st = [.Assign [.Attribute (.Name "self" q1) fld q2] (.Name par q3) q4])
    (v0 : Vis (defScope st) "self") (v1 : Vis (defScope st) par) (hd : (par == ("__debug__" : Str)) = false) (hcd : (par == ("__classdict__" : Str)) = false) : FnOk P w K mg base CX0 (k + 1) f fd ["self", par] (spI K fld) := by
  refine F.ok S (fun vs H Q E h => ?_) (fun cdv A outer s H vs Q E hr h => ?_)
  · obtain ⟨_, _, _, rfl, _⟩ := h; rfl
  · obtain ⟨a, C, v, rfl, T, hno, hH, q⟩ := h
    rw [hb]
    refine ⟨_, pss_cons (ps_ost (pe_var (i := 0) rfl v0) (pe_var (i := 1) rfl v1 hd hcd)) pss_nil, ?_⟩
    refine ⟨v, rfl, .ref a, rfl, a, C, rfl, T, hno, .inl ⟨hH, fun dx h1 h2 => ?_⟩⟩
    exact q dx h1 h2
end ZZ

set_option maxHeartbeats 2000000
/-! Z15: defs called where an exception is handled. -/
namespace ZZ
open PySem PySem.Spec PyProof.Rows L2
open Evl (Ex)
def Gh {τ : Type} (M : Mo) (k : Nat) (x : Str) (ps : List Str) (t : Ct τ) : Prop :=
  ∃ (f : Addr) (fd : FuncData), L2H.FnH M.P M.w M.K M.mg M.base CX0 k f fd ps t.sp ∧ M.mg x = some (.ref f) ∧ PySem.W.keepIn M.K (.ref f) = true ∧ Binds M.K fd ps []
theorem Pr.gh {τ : Type} {t : Ct τ} {M : Mo} {k : Nat} {x : Str} {st : Stmt} {N ps : List Str} (P : Pr M x st ps) (S : FnScope N ps (defScope st)) (hlen : ∀ g, (t.As g).length = ps.length)
    (hbody : ∀ (X : Cx) (B0 F0 : Hp) (D : Ends) (g : τ), t.pre g → Rt B0 F0 D.rt (t.S g) (t.ω' g) → (∀ σ H, D.rt .non H → D.nx σ H) → DS ⟨M, defScope st, k, true, true⟩ X B0 F0 D (mkΓ N (t.As g)) (t.ω g) (defBody st)) : Gh M (k + 1) x ps t := by
  obtain ⟨f, fd, F, hm, hb⟩ := P
  obtain ⟨oc, od, kV, doc, pm, an, cdv, ct, osl, rfl, lk, hcd⟩ := F.ex
  refine ⟨f, _, L2H.fn_ofH lk hcd S (fun vs H Q E h => ?_) (fun A outer s H vs Q E p hot hr h => ?_), hm, F.kp, hb⟩
  · obtain ⟨g, _, _, _, h2, _⟩ := h
    rw [h2.len, hlen]
  · obtain ⟨g, F0, B, hp, hv, hO, hQ⟩ := h
    have hl : ps.length ≤ N.length := by have := congrArg List.length S.pre; rw [List.length_take] at this; omega
    refine ⟨_, (pss_w (X := (L2H.cxH CX0 M.P M.w M.K M.mg M.base N x (defScope st) f cdv A outer s H E p).nox)).nox, hbody _ B F0 _ g hp (fun v B' H' e1 O1 p1 => hQ v B' H' e1 O1 p1) (fun _ _ h => h) ?_ _ B H (Ex.refl B) (mk_env N _ vs hv (by rw [hlen]; exact hl)) hO⟩
    rw [mk_names]
    exact ⟨rfl, rfl, rfl, rfl, rfl, rfl, rfl, S.nd, (fun h => nomatch h), (fun h => nomatch h), hr, fun _ => ⟨p, hot, List.mem_singleton.mpr rfl⟩, fun _ _ _ => rfl, PassesOwn.never⟩
section
variable {c : Cc} {X : Cx} {B0 F : Hp} {D : Ends} {Γ Γ0 : En} {ω ω1 : Ws} {e it tg : Expr} {es : List Expr} {x : Str} {pos px p : Pos} {α β : Type} {Rb : β → Sh} {W : Nat → β → Prop} {n : Nat} {rest body : List Stmt} {a : Expr} {j : Int}
theorem d_callH {τ : Type} {t : Ct τ} {k : Nat} {ps : List Str} {ss : List Sh} (hh : c.hot = true) (g : τ) (G : Gh c.M k x ps t) (hk : k ≤ c.k) (ha : DA c Γ ω (e :: es) ss ω1) (hs : ss = t.As g) (hp : t.pre g) (h0 : t.ω g = [] := by rfl) (h1 : t.ω' g = [] := by rfl)
    (hg : Glo c.sc x := by exact rfl) (hdb : (x == ("__debug__" : Str)) = false := by decide) (he : ∀ env, starEach (e :: es) env = (false, eval e env) :: starEach es env := by intro _; rfl) (hpl : ∀ env, (backTo pos (starEach es env)).any (·.1) = false := by intro _; rfl) :
    DE c Γ ω (.Call (.Name x px) (e :: es) [] pos) (t.S g) ω1 := by
  obtain ⟨f, fd, hF, hm, hkp, hb⟩ := G
  intro X fx F σ B H hE hO Q hQ
  have hF' : L2H.FnH X.prog X.w X.K X.mg X.base CX0 k f fd ps t.sp := by rw [fx.prog, fx.w, fx.K, fx.mg, fx.base]; exact hF
  refine tW.of (L2H.pe_callH (E := fun _ => E0) hF' (fx.roomH.mono hk) (fx.hotc hh) (gl_of fx hg) (by rw [fx.mg]; exact hm) (by rw [fx.K]; exact hkp) (by rw [fx.K]; exact hb) (fun σ pins H s e s' I q => pass0 pins σ H s e s' I q) pa_w hdb (he _) (hpl _)) ?_
  refine ha X fx F σ B H hE hO _ fun vs B1 H1 e1 O1 p1 => ?_
  subst hs
  refine ⟨g, frame F ω1 H1, B1, hp, p1, by rw [h0]; exact (show Own F ([] ++ ω1) B1 H1 from O1).focus, fun v B' H' e2 O2 p2 => ?_⟩
  rw [h1] at O2
  exact hQ v B' H' (e1.trans e2) ((show Own F ([] ++ ω1) B1 H1 from O1).unfocus e2 O2 rfl) p2
def tIh (X : Cx) (tg it : Expr) : TI := fun σ H R => ∀ pins s, Inv X pins σ H s → wpAny (model X.prog X.w) X.A (eval it X.env) (fun v s1 => wpAny (model X.prog X.w) X.A (pyIter v) (L2H.PIEH X pins σ tg R) X.xe s1) X.xe s
theorem tIh.of {X : Cx} {tg it : Expr} {wi : TI} {σ : L2.St} {H : Hp} {R : It → Hp → Prop} (h : L2H.PIH X tg it wi) (q : wi σ H R) : tIh X tg it σ H R := fun pins s I => h.run pins s σ H R I q
theorem pih_w {X : Cx} {tg it : Expr} : L2H.PIH X tg it (tIh X tg it) := ⟨fun pins s σ H R I h => h pins s I⟩
def DIh {β : Type} (c : Cc) (Γ : En) (ω : Ws) (tg it : Expr) (n : Nat) (W : Nat → β → Prop) (Rb : β → Sh) (ω' : Ws) : Prop :=
  ∀ X, Fits c (Γ.map (·.1)) X → ∀ F σ B H, EnvOk Γ σ B → Own F ω B H → ∀ R : It → Hp → Prop, (∀ J B' H', Ex B B' → Own F ω' B' H' → ItS J n W Rb B' → R J H') → tIh X tg it σ H R
theorem i_rng1H (ha : DE c Γ ω a (I j) ω1) (hm : c.M.mg "range" = none) (hj : j < 2 ^ 62 := by omega) (hj' : -(2 ^ 62) ≤ j := by omega) (hg : Glo c.sc "range" := by exact rfl) (he : ∀ env, starEach [a] env = [(false, eval a env)] := by intro _; rfl) :
    DIh c Γ ω tg (.Call (.Name "range" p) [a] [] pos) j.toNat (fun i y => y = (i : Int)) I ω1 := by
  intro X fx F σ B H hE hO R hR
  refine tIh.of (L2H.pi_range1H (gl_of fx hg) (by rw [fx.mg]; exact hm) pa_w (he _)) ?_
  refine a_cons ha a_nil (by intro env; rw [he]; rfl) X fx F σ B H hE hO _ fun vs B1 H1 e1 O1 p1 => ?_
  obtain ⟨v, rfl, hv⟩ := all1 p1
  refine ⟨j, by rw [show v = V.int j from hv], hj', hj, hR _ B1 H1 e1 O1 fun B2 H2 e2 e3 => ?_⟩
  refine ⟨fun i hi => hi, Nat.le_refl _, fun i hi x H3 y => ?_⟩
  obtain ⟨rfl, q⟩ := y
  exact ⟨(i : Int), rfl, .inl ⟨rfl, by rw [q, Int.zero_add]; rfl⟩⟩
/-- a loop where an exception is handled; names and cells by the turn -/
theorem ds_forFH (hh : c.hot = true) (f : Nat → En) (g : Nat → Ws) (hi : DIh c Γ ω tg it n W Rb ω1) (hf : Fg Γ (f 0)) (h0 : ω1 = g 0)
    (hb : ∀ B1, Ex B0 B1 → ∀ i y, i < n → W i y → ∃ Γb ns, DG c tg ns (Rb y) (f i) Γb ∧ DS c X B1 F { D with nx := Jn (Γ.map (·.1)) B1 F (lp f g (i + 1)), ct := Jn (Γ.map (·.1)) B1 F (lp f g (i + 1)), bk := tS X rest D } Γb (g i) body)
    (hd : DS c X B0 F D (f n) (g n) rest) (hs : ∀ env x, foldedSetIterable it env x = pure x := by intro _ _; rfl) : DS c X B0 F D Γ ω (.For tg it body [] pos :: rest) := by
  intro fx σ B H hB hE hO
  refine tS.cons (L2H.ps_forH fx.pass (fx.hotc hh) pih_w pg_w pss_w (hs _)) ?_
  refine hi X fx F σ B H hE hO _ fun It B1 H1 e1 O1 hit => ?_
  have hB1 : Ex B0 B1 := hB.trans e1
  subst h0
  refine ⟨fun i m σ' H' => m = n - i ∧ i ≤ n ∧ Jn (Γ.map (·.1)) B1 F (lp f g i) σ' H', ⟨n, by simp, Nat.zero_le _, f 0, g 0, B1, ⟨rfl, rfl⟩, hf.names, Ex.refl B1, hf.env (hE.mono e1), O1⟩, ?_⟩
  rintro i m σ2 H2 ⟨rfl, hi', Γi, ωi, B2, ⟨rfl, rfl⟩, hN, hB2, hE2, hO2⟩
  obtain ⟨q1, q2, q3⟩ := hit B2 H2 hB2 hO2.ex
  by_cases hlt : i < n
  · refine .inr ⟨q1 i hlt, Jn (Γ.map (·.1)) B1 F (lp f g (i + 1)), fun σ' H' p' => ⟨n - (i + 1), by omega, rfl, hlt, p'⟩, fun x H3 y => ?_⟩
    obtain ⟨z, hz, q⟩ := q3 i hlt x H3 y
    obtain ⟨Γb, ns, hg, hds⟩ := hb B1 hB1 i z hlt hz
    rcases q with ⟨rfl, q⟩ | ⟨T, o, hT, rfl, q⟩
    · refine hg.2 X (fx.re hN) σ2 B2 _ x hE2 hO2.ex q _ fun σ3 hE3 _ => ?_
      exact hds (fx.re (hg.1.trans hN)) σ3 B2 _ hB2 hE3 hO2
    · obtain ⟨O4, e4⟩ := hO2.new (o := o) hT
      refine hg.2 X (fx.re hN) σ2 (upd B2 T o) _ x (hE2.mono e4) O4.ex (q (hO2.none_of hT).1) _ fun σ3 hE3 _ => ?_
      exact hds (fx.re (hg.1.trans hN)) σ3 _ _ (hB2.trans e4) hE3 O4
  · have e : i = n := by omega
    subst e
    exact .inl ⟨q2, hd (fx.re hN) σ2 B2 H2 (hB1.trans hB2) hE2 hO2⟩
end
end ZZ

set_option maxHeartbeats 2000000
/-! Z16: a def that raises an own error; the error caught. -/
namespace ZZ
open PySem PySem.Spec PyProof.Rows L2
open Evl (Ex)
/-- an own error made, its context None -/
theorem pmkN_oex {X : Cx} {CX : CXT} {x : Str} {e : Expr} {es : List Expr} {ta : TA} {p ps0 : Pos} {C fI : Addr} {k : Nat} {fd : FuncData} {ps : List Str} {sp : Sp} (TT : OexC X.K C) (iCC : PySem.W.findIn X.K (.ref C) "__init__" = some (some (.ref fI))) (tII : PySem.W.typeIn X.K (.ref fI) = some (.type "function"))
    (FF : FnOk X.prog X.w X.K X.mg X.base CX k fI fd ps sp) (hrr : Room (k + 1) X.A) (hbb : Binds X.K fd ps []) (hxx : Passes CX X (fun _ _ _ => False)) (hgg : Gl X x) (hmm : X.mg x = some (.ref C)) (haa : PA X (e :: es) ta)
    (hdbb : (x == ("__debug__" : Str)) = false) (hee : starEach (e :: es) X.env = (false, eval e X.env) :: starEach es X.env) (hppl : (backTo ps0 (starEach es X.env)).any (·.1) = false) :
    L2N.PMk X (.Call (.Name x p) (e :: es) [] ps0) (tMkO C sp [] ta) := by
  intro pp s σ0 H Q I hq0
  obtain ⟨nm, q, N, bs, mro1, sn, sub, ab, col, dd, n0, n1, n2, n3, n5, clC, mro2⟩ := TT.cls
  refine wpAny_Call_Name_kw (ld_glob I hgg hmm ?_ hdbb)
  refine PySem.W.callWith_K (h₀ := X.base) I.ok.mod.kin TT.kC (thn (haa.run ps0 pp s σ0 H _ I hq0) fun ws sB ⟨xs, HB, J1, vv1, hz, goal1⟩ => ⟨J1.kIn, ?_⟩) hee hppl
  show wpAny _ _ (call (.ref C) ws) _ _ _
  obtain ⟨hz0, gs0, dw0, tt0, oz0⟩ := sB
  have le2 : hz0.objs.size ≤ hz0.objs.size + 1 := Nat.le_succ _
  have fr2 : HB (hz0.objs.size + 1) = none := J1.hok.fresh le2
  have sq2 := goal1 (hz0.objs.size + 1) fr2
  rw [List.append_nil] at sq2
  have kp2 : ∀ b o, hz0.get? b = some o → ((hz0.push (PySem.W.kdv_tup ws)).push (PySem.HandSPX.excO C hz0.objs.size)).get? b = some o := fun b o eq1 => Heap.get?_push_of_some _ (Heap.get?_push_of_some _ eq1)
  have got2 : ((hz0.push (PySem.W.kdv_tup ws)).push (PySem.HandSPX.excO C hz0.objs.size)).get? (hz0.objs.size + 1) = some (PySem.HandSPX.excO C hz0.objs.size) := by heap_get
  have J2 : Inv X pp σ0 (upd HB (hz0.objs.size + 1) (exo (hz0.objs.size + 1) C none)) ⟨(hz0.push (PySem.W.kdv_tup ws)).push (PySem.HandSPX.excO C hz0.objs.size), gs0, dw0, tt0, oz0⟩ :=
    J1.laid (t' := tt0) (a := hz0.objs.size + 1) (o := exo (hz0.objs.size + 1) C none) (h' := (hz0.push (PySem.W.kdv_tup ws)).push (PySem.HandSPX.excO C hz0.objs.size)) kp2 le2 (exo_ok got2)
  have vv2 : Vals (V.ref (hz0.objs.size + 1) :: xs) (Value.ref (hz0.objs.size + 1) :: ws) := .cons rfl vv1
  have ln2 : (Value.ref (hz0.objs.size + 1) :: ws ++ []).length = ps.length := by
    have eq1 := vv2.length
    rw [FF.len _ _ _ _ sq2] at eq1
    rw [List.append_nil]; exact eq1.symm
  have sz2 : ws.length ≤ sizeLine := by
    rw [← Paired.length vv1, sizeLine_eq]
    omega
  have bd2 := hbb _ (Value.ref (hz0.objs.size + 1) :: ws) J2.kIn ln2
  rw [List.append_nil] at bd2
  refine wpAny_call (PySem.HandSPX.call_own F.excBase_ValueError (fun Y => PySem.HandSPX.refsVE_contains Y mro1 mro2) (J1.kIn _ _ clC) (PySem.W.looks_findIn J1.kIn iCC) (fun self => PySem.W.bind_fn J1.kIn self tII) sz2
    (codeAny_mono (FF.run _ X.stack _ _ ⟨Value.ref (hz0.objs.size + 1) :: ws, []⟩ (Value.ref (hz0.objs.size + 1) :: ws) _ _ (fun _ _ _ => False) (hrr.make C ws []) (J2.env0.make C ws []) bd2 vv2 sq2) fun r s' out2 => ?_))
  cases r with
  | error eX => exact hxx pp σ0 _ _ eX s' J2 out2
  | ok fX =>
    cases fX with
    | ret u =>
      obtain ⟨v, H2, oze2, bar2, und2, okk2, rv, nul2, d, flds, atA, atD, frD, goal2⟩ := out2
      subst nul2
      obtain ⟨hz2, gs2, dw2, tt2, oz2⟩ := s'
      obtain ⟨t0, G, J, kG, gE, atG, frG⟩ := mk_end0 (d2 := dw2) (t2 := tt2) J1 le2 kp2 und2 okk2 oze2 bar2 atA atD frD
      exact ⟨rv, hz0.objs.size + 1, _, _, ⟨G, gs2, dw2, tt2, oz2⟩, _, .ref C, some d, rfl, J, kG, gE, atG, ⟨rfl, rfl, fun fv hv => by cases hv; rfl⟩, rfl, rfl, frG, rfl, bar2, raises_own TT.exC TT.tyC, goal2⟩
    | next => exact False.elim out2
    | brk => exact False.elim out2
    | cont => exact False.elim out2
/-- the def lets out an error of the class at C that carries a word of the shape S -/
def Ct.spR {τ : Type} (t : Ct τ) (C : Addr) (fld : Str) : Sp := fun vs H _ E => ∃ (g : τ) (F B : Hp), t.pre g ∧ All2 (fun v (s : Sh) => s.p B v) vs (t.As g) ∧ Own F [] B H ∧ ∀ dd v B' H', Ex B B' → Own F [] B' H' → B' dd = some (.xd [(fld, v)]) → (t.S g).p B' v → E (.ref C) (some dd) H'
theorem takesN0 {X : Cx} : L2N.Takes X (fun _ _ _ _ => False) := fun _ _ ⟨_, _, _, _, _, _, _, _, _, _, _, _, _, _, _, _, q⟩ => q.elim
theorem gd_raise {τ : Type} {t : Ct τ} {M : Mo} {k : Nat} {x qual : Str} {st : Stmt} {f : Addr} {fd : FuncData} {N ps : List Str} {C : Addr} {fld : Str} (F : Fun M.K x qual st f fd) (S : FnScope N ps (defScope st)) (hlen : ∀ g, (t.As g).length = ps.length)
    (hbody : ∀ (X : Cx) (B0 F0 : Hp) (D : Ends) (W : WX) (g : τ), t.pre g → L2N.Takes X W → (∀ σ dd v B H, Ex B0 B → Own F0 [] B H → B dd = some (.xd [(fld, v)]) → (t.S g).p B v → W (.ref C) (some dd) σ H) → DS ⟨M, defScope st, k, true, false⟩ X B0 F0 D (mkΓ N (t.As g)) [] (defBody st)) :
    FnOk M.P M.w M.K M.mg M.base (L2N.CX M.P M.w) (k + 1) f fd ps (t.spR C fld) := by
  obtain ⟨oc, od, kV, doc, pm, an, cdv, ct, osl, rfl, lk, hcd⟩ := F.ex
  refine fn_of lk hcd S (fun vs H Q E h => ?_) (fun A outer s H vs Q E hr h => ?_)
  · obtain ⟨g, _, _, _, h2, _⟩ := h
    rw [h2.len, hlen]
  · obtain ⟨g, F0, B, hp, hv, hO, hQ⟩ := h
    have hl : ps.length ≤ N.length := by have := congrArg List.length S.pre; rw [List.length_take] at this; omega
    refine ⟨_, pss_w, hbody _ B F0 _ (fun cls d _ H => E cls d H) g hp (L2N.takes_of rfl rfl rfl rfl) (fun σ dd v B' H' e O h1 h2 => hQ dd v B' H' e O h1 h2) ?_ _ B H (Ex.refl B) (mk_env N _ vs hv (by rw [hlen]; exact hl)) hO⟩
    rw [mk_names]
    exact ⟨rfl, rfl, rfl, rfl, rfl, rfl, rfl, S.nd, fun _ => rfl, fun _ => hr, L2H.roomH_of hr, (fun h => nomatch h), fun _ _ _ => rfl, passes_of rfl⟩
/-- what the top has written of an own error class and its __init__ -/
structure XC (M : Mo) (x : Str) (C fI : Addr) (fdI : FuncData) (par fld : Str) (kI : Nat) : Prop where
  T : OexC M.K C
  iC : PySem.W.findIn M.K (.ref C) "__init__" = some (some (.ref fI))
  tI : PySem.W.typeIn M.K (.ref fI) = some (.type "function")
  F1 : FnOk M.P M.w M.K M.mg M.base CX0 kI fI fdI ["self", par] (spI M.K fld)
  hb : Binds M.K fdI ["self", par] []
  hno : PySem.W.findIn M.K (.ref C) fld = some none
  hm : M.mg x = some (.ref C)
section
variable {c : Cc} {X : Cx} {B0 F : Hp} {D : Ends} {Γ : En} {ω ω1 : Ws} {a : Expr} {x : Str} {pos px pos2 : Pos} {S : Sh} {rest : List Stmt}
theorem ds_raise [Cold c] {W : WX} {C fI : Addr} {fdI : FuncData} {par fld : Str} {kI : Nat} (tk : L2N.Takes X W) (XT : XC c.M x C fI fdI par fld kI) (hk : kI + 1 ≤ c.k) (ha : DE c Γ ω a S ω1) (K : ∀ σ dd v B H, Ex B0 B → Own F ω1 B H → B dd = some (.xd [(fld, v)]) → S.p B v → W (.ref C) (some dd) σ H)
    (hg : Glo c.sc x := by exact rfl) (hdb : (x == ("__debug__" : Str)) = false := by decide) (he : ∀ env, starEach [a] env = (false, eval a env) :: starEach [] env := by intro _; rfl) (hpl : ∀ env, (backTo pos (starEach ([] : List Expr) env)).any (·.1) = false := by intro _; rfl) :
    DS c X B0 F D Γ ω (.Raise (some (.Call (.Name x px) [a] [] pos)) none pos2 :: rest) := by
  intro fx σ B H hB hE hO
  have T : OexC X.K C := by rw [fx.K]; exact XT.T
  have iC : PySem.W.findIn X.K (.ref C) "__init__" = some (some (.ref fI)) := by rw [fx.K]; exact XT.iC
  have tI' : PySem.W.typeIn X.K (.ref fI) = some (.type "function") := by rw [fx.K]; exact XT.tI
  have F1 : FnOk X.prog X.w X.K X.mg X.base CX0 kI fI fdI ["self", par] (spI X.K fld) := by rw [fx.prog, fx.w, fx.K, fx.mg, fx.base]; exact XT.F1
  have hno : PySem.W.findIn X.K (.ref C) fld = some none := by rw [fx.K]; exact XT.hno
  refine tS.cons (L2N.ps_raise fx.calm tk (pmkN_oex T iC tI' F1 (fx.room.mono hk) (by rw [fx.K]; exact XT.hb) pass0 (gl_of fx hg) (by rw [fx.mg]; exact XT.hm) pa_w hdb (he _) (hpl _))) ?_
  refine a_cons ha a_nil he X fx F σ B H hE hO _ fun vs B1 H1 e1 O1 p1 => ?_
  obtain ⟨v, rfl, hv⟩ := all1 p1
  refine ⟨by simp, fun a' ha' => ⟨a', C, v, rfl, T, hno, upd_same, fun dx hdx hne => ?_⟩⟩
  have hdx1 : H1 dx = none := by rw [upd_ne hne] at hdx; exact hdx
  refine ⟨rfl, dx, [(fld, v)], upd_same, by rw [upd_ne hne, upd_same], hdx1, ?_⟩
  have e : upd (del (upd (upd (upd H1 a' (exo a' C none)) dx (exd dx [(fld, v)])) a' (exo a' C (some dx))) a') dx (.xd [(fld, v)]) = upd H1 dx (.xd [(fld, v)]) := by
    funext b
    by_cases z : b = dx
    · rw [z, upd_same, upd_same]
    · rw [upd_ne z, upd_ne z]
      by_cases y : b = a'
      · rw [y, del_same, ha']
      · rw [del_ne y, upd_ne y, upd_ne z, upd_ne y]
  rw [e]
  obtain ⟨O2, e2⟩ := O1.new (o := .xd [(fld, v)]) hdx1
  exact K σ dx v _ _ ((hB.trans e1).trans e2) O2 upd_same (S.mono e2 hv)
end
/-- a def that always raises -/
def Gx {τ : Type} (M : Mo) (k : Nat) (x : Str) (ps : List Str) (t : Ct τ) (C : Addr) (fld : Str) : Prop :=
  ∃ (f : Addr) (fd : FuncData), FnOk M.P M.w M.K M.mg M.base (L2N.CX M.P M.w) k f fd ps (t.spR C fld) ∧ M.mg x = some (.ref f) ∧ PySem.W.keepIn M.K (.ref f) = true ∧ Binds M.K fd ps []
theorem Pr.gx {τ : Type} {t : Ct τ} {M : Mo} {k : Nat} {x : Str} {st : Stmt} {N ps : List Str} {C : Addr} {fld : Str} (P : Pr M x st ps) (S : FnScope N ps (defScope st)) (hlen : ∀ g, (t.As g).length = ps.length)
    (hbody : ∀ (X : Cx) (B0 F0 : Hp) (D : Ends) (W : WX) (g : τ), t.pre g → L2N.Takes X W → (∀ σ dd v B H, Ex B0 B → Own F0 [] B H → B dd = some (.xd [(fld, v)]) → (t.S g).p B v → W (.ref C) (some dd) σ H) → DS ⟨M, defScope st, k, true, false⟩ X B0 F0 D (mkΓ N (t.As g)) [] (defBody st)) : Gx M (k + 1) x ps t C fld := by
  obtain ⟨f, fd, F, hm, hb⟩ := P
  exact ⟨f, fd, gd_raise F S hlen hbody, hm, F.kp, hb⟩
/-- try: f(..) / except C as n: suite, the call always raising -/
theorem ds_try {c : Cc} [Cold c] {X : Cx} {B0 F : Hp} {D : Ends} {Γ : En} {τ : Type} {t : Ct τ} {C : Addr} {fld f x n : Str} {ps : List Str} {ss : List Sh} {k i : Nat} {e : Expr} {es : List Expr} {pf pc pe np pos' pos : Pos} {b₀ : Stmt} {suite rest : List Stmt}
    (hst : X.stack = X.env :: X.outer) (hfr : X.env.frame = some X.env.locals) (g : τ) (G : Gx c.M k f ps t C fld) (hk : k ≤ c.k) (ha : DA c Γ [] (e :: es) ss []) (hs : ss = t.As g) (hp : t.pre g) (hx : c.M.mg x = some (.ref C)) (hex : PySem.W.exmOne c.M.K (.ref C) (.ref C) = some true)
    (hi : (Γ.map (·.1))[i]? = some n) (hln : c.sc.names.lookup n = some .local)
    (hsu : ∀ (a : Addr) (oe : Obj) (dd : Addr) (pn : List (Addr × Obj)) (D' : Ends) (σ : L2.St) (v : V) (B H : Hp), D'.rt = D.rt → L2N.Zn (.ref C) (some dd) oe → (∃ vs, oe.data = .fields vs) → Fits c (Γ.map (·.1)) X → Ex B0 B → EnvOk Γ σ B → Own F [] B H → H a = none → B dd = some (.xd [(fld, v)]) → (t.S g).p B v → tS (X.suite a ((a, oe) :: pn)) (b₀ :: suite) D' (σ.set i (some (.ref a))) H)
    (hgx : Glo c.sc x := by exact rfl) (hgf : Glo c.sc f := by exact rfl) (hdx : (x == ("__debug__" : Str)) = false := by decide) (hdb : (f == ("__debug__" : Str)) = false := by decide) (he : ∀ env, starEach (e :: es) env = (false, eval e env) :: starEach es env := by intro _; rfl) (hpl : ∀ env, (backTo pc (starEach es env)).any (·.1) = false := by intro _; rfl)
    (hsw : ∀ env, swapsWith (.Call (.Name f pf) (e :: es) [] pc) none pe.line env = pure false := by intro _; rfl) :
    DS c X B0 F D Γ [] (.Try [.Expr (.Call (.Name f pf) (e :: es) [] pc) pe] [.ExceptHandler (some (.Name x np)) (some n) (b₀ :: suite) pos'] [] [] pos :: rest) := by
  intro fx σ B H hB hE hO
  obtain ⟨fa, fd, hF, hm, hkp, hbd⟩ := G
  refine tS.cons (L2N.ps_try_as (c := .ref C) (i := i) (Wout := fun _ _ _ _ => False) (tb := fun W D σ H => ∀ pn xe, L2N.Takes (X.tr pn xe) W → PassesOwn (model X.prog X.w) X.A X.env xe → tS (X.tr pn xe) [.Expr (.Call (.Name f pf) (e :: es) [] pc) pe] D σ H)
    (ts := fun a cls d D σ H => ∀ oe pn, L2N.Zn cls d oe → (∃ vs, oe.data = .fields vs) → tS (X.suite a ((a, oe) :: pn)) (b₀ :: suite) D σ H) hst hfr (by rw [fx.ns]; exact fx.nd) (by rw [fx.ns]; exact hi) (by show X.env.scope.names.lookup n = _; rw [fx.sc]; exact hln) ⟨gl_of fx hgx, hdx, .inl (by rw [fx.mg]; exact hx)⟩ takesN0
    (fun W pn xe tk hp => ⟨fun pins s σ H D I h => h pn xe tk hp pins s I⟩) (fun a oe cls d pn z hf => ⟨fun pins s σ H D I h => h oe pn z hf pins s I⟩)) ?_
  intro pn xe tk hpo
  have fxt : Fits c (Γ.map (·.1)) (X.tr pn xe) := ⟨fx.prog, fx.w, fx.K, fx.mg, fx.base, fx.sc, fx.ns, fx.nd, fx.calm0, fx.room0, fx.roomH, (fun h => absurd (h.symm.trans (Cold.out (c := c))) (by decide)), fx.cell, hpo⟩
  have hF' : FnOk (X.tr pn xe).prog (X.tr pn xe).w (X.tr pn xe).K (X.tr pn xe).mg (X.tr pn xe).base (L2N.CX X.prog X.w) k fa fd ps (t.spR C fld) := by
    show FnOk X.prog X.w X.K X.mg X.base (L2N.CX X.prog X.w) k fa fd ps (t.spR C fld)
    rw [fx.prog, fx.w, fx.K, fx.mg, fx.base]; exact hF
  refine tS.of (pss_cons (ps_expr (pe_callS (E := WE _) hF' (fxt.room.mono hk) (gl_of fxt hgf) (by show X.mg f = _; rw [fx.mg]; exact hm) (by show PySem.W.keepIn X.K _ = _; rw [fx.K]; exact hkp) (by show Binds X.K _ _ _; rw [fx.K]; exact hbd) (fun σ => L2N.passAt tk σ) pa_w hdb (he _) (hpl _)) (hsw _)) pss_nil) ?_
  refine ha (X.tr pn xe) fxt F σ B H hE hO _ fun vs B1 H1 e1 O1 p1 => ?_
  subst hs
  refine ⟨g, F, B1, hp, p1, O1, fun dd v B2 H2 e2 O2 h1 h2 => ?_⟩
  refine ⟨true, by rw [fx.K]; exact hex, fun _ a hna oe pn' z hf => ?_, fun h => nomatch h⟩
  exact hsu a oe dd pn' _ σ v B2 H2 rfl z hf fx ((hB.trans e1).trans e2) (hE.mono (e1.trans e2)) O2 hna h1 h2
end ZZ

set_option maxHeartbeats 2000000
/-! Z17: the suite that asks a caught error for its class and its word. -/
namespace ZZ
open PySem PySem.Spec PyProof.Rows L2
open Evl (Ex)
/-- what a caught error's class must say -/
structure XD (K : PySem.W.Frag) (C N : Addr) (fld : Str) : Prop where
  F : XfC K C
  hno : PySem.W.findIn K (.ref C) fld = some none
  hcl : (PySem.W.clsIn K C).isSome = true
  ha : PySem.W.findIn K (.ref C) "__class__" = some (some (.builtin "object.__class__"))
  hn : PySem.W.specialIn K (.builtin "object.__class__") "__get__" = some (some (.builtin "getset_descriptor.__get__"))
  ht : PySem.W.takesIn K (.builtin "object.__class__") = some true
  hm : PySem.W.mroIn K C (.type "object") = some true
  no : PySem.W.kitOne K (.ref C) (.ref N) = some false
def rIsD (K : PySem.W.Frag) (C a dd : Addr) : List V → Hp → VK → Prop := fun xs H Q => ∃ (v : V) (cv : Value) (b : Bool) (fs : List (Str × V)), xs = [.ref a, v] ∧ (∀ u, RelV v u → u = cv) ∧ PySem.W.kitOne K (.ref C) cv = some b ∧ H dd = some (.xd fs) ∧ Q (.bl b) H
theorem call_isD {X : Cx} {a C N dd : Addr} {fld : Str} {oe : Obj} {pn : List (Addr × Obj)} (T : XD X.K C N fld) (hz : Zc (.ref C) (some dd) oe) (hf : ∃ vs, oe.data = .fields vs) : CallR (X.suite a ((a, oe) :: pn)) (.builtin "isinstance") (rIsD X.K C a dd) := by
  intro pins s σ H xs us Q I r h
  obtain ⟨v, cv, b, fs, rfl, hcv, e, hd, q⟩ := h
  cases r with | cons rx rr => cases rr with | cons rt rr =>
  cases rr
  obtain rfl : _ = Value.ref a := rx
  obtain rfl := hcv _ rt
  obtain ⟨hget, _⟩ := I.pin (a, oe) (List.mem_append.mpr (.inl List.mem_cons_self))
  obtain ⟨vs, hv⟩ := hf
  obtain ⟨mA, hns, hr⟩ : ObjOk X.prog X.w H s.heap dd (.xd fs) := I.hok dd _ hd
  obtain ⟨od, ho, hl⟩ := lookIn_ns hns
  have J : PySem.W.InstAt s.heap a oe C (some od) := ⟨hget, hz.1, (by unfold PySem.W.notCls; rw [hv] <;> rfl), by rw [hz.2]; exact ho⟩
  exact PySem.W.kia_one (PySem.W.kitx_exc T.hcl T.F.ga T.F.gg T.F.exC T.ha T.hn T.ht T.hm) I.kIn J e (fun z => nomatch z) fun tk => ⟨.bl b, H, I.kept (t' := tk) fun _ _ z => z, rfl, q⟩
/-- return not isinstance(n, y) and same(n.fld, tuple(z)) -/
theorem suite_same {c : Cc} {X : Cx} {Γ : En} {F B H : Hp} {D' : Ends} {σ : L2.St} {v : V} {a C N dd : Addr} {oe : Obj} {pn : List (Addr × Obj)} {n y z sm fld : Str} {i k : Nat} {sc : List Int} {bz : Bool} {t : Ct (List Int)} {p1 p2 p3 p4 p5 p6 p7 p8 p9 p10 p11 p12 p13 p14 : Pos} {ps : List Str}
    (fx : Fits c (Γ.map (·.1)) X) (hz : L2N.Zn (.ref C) (some dd) oe) (hf : ∃ vs, oe.data = .fields vs) (hE : EnvOk Γ σ B) (hO : Own F [] B H) (hd : B dd = some (.xd [(fld, v)])) (hv : (Sq false I sc).p B v) (T : XD X.K C N fld) (hi : (Γ.map (·.1))[i]? = some n) (hn : Vis c.sc n) (hy : c.M.mg y = some (.ref N)) (hz' : Has Γ z (Sq bz I sc))
    (hzn : z ≠ n) (hzv : Vis c.sc z) (G : Gh c.M k sm ps t) (hk : k ≤ c.k) (hAs : t.As sc = [Sq false I sc, Sq false I sc]) (hpre : t.pre sc) (hS : t.S sc = Bo true) (h0 : t.ω sc = []) (h1 : t.ω' sc = [])
    (hQ : ∀ B' H', Ex B B' → Own F [] B' H' → D'.rt (.bl true) H')
    (m1 : c.M.mg "isinstance" = none) (m2 : c.M.mg "tuple" = none) (g1 : Glo c.sc "isinstance") (g2 : Glo c.sc "tuple") (g3 : Glo c.sc y) (g4 : Glo c.sc sm) (dn : (n == ("__debug__" : Str)) = false) (dn2 : (n == ("__classdict__" : Str)) = false) (dz : (z == ("__debug__" : Str)) = false) (dz2 : (z == ("__classdict__" : Str)) = false) (dy : (y == ("__debug__" : Str)) = false) (ds : (sm == ("__debug__" : Str)) = false)
    (e1 : ∀ env, starEach [Expr.Name n p2, .Name y p3] env = (false, eval (.Name n p2) env) :: starEach [.Name y p3] env := by intro _; rfl) (e2 : ∀ env, starEach [Expr.Name y p3] env = (false, eval (.Name y p3) env) :: starEach [] env := by intro _; rfl)
    (e3 : ∀ env, starEach [Expr.Attribute (.Name n p7) fld p8, .Call (.Name "tuple" p9) [.Name z p10] [] p11] env = (false, eval (.Attribute (.Name n p7) fld p8) env) :: starEach [.Call (.Name "tuple" p9) [.Name z p10] [] p11] env := by intro _; rfl)
    (e4 : ∀ env, starEach [Expr.Call (.Name "tuple" p9) [.Name z p10] [] p11] env = (false, eval (.Call (.Name "tuple" p9) [.Name z p10] [] p11) env) :: starEach [] env := by intro _; rfl) (e5 : ∀ env, starEach [Expr.Name z p10] env = (false, eval (.Name z p10) env) :: starEach [] env := by intro _; rfl) (hb : ∀ env, attributeBase (.Name n p7) fld env (eval (.Name n p7) env) = eval (.Name n p7) env := by intro _; rfl)
    (b1 : ∀ env, (backTo p4 (starEach [Expr.Name y p3] env)).any (·.1) = false := by intro _; rfl) (b2 : ∀ env, (backTo p12 (starEach [Expr.Call (.Name "tuple" p9) [.Name z p10] [] p11] env)).any (·.1) = false := by intro _; rfl) (b3 : ∀ env, (backTo p11 (starEach ([] : List Expr) env)).any (·.1) = false := by intro _; rfl) :
    tS (X.suite a ((a, oe) :: pn)) [.Return (some (.BoolOp .And [.UnaryOp .Not (.Call (.Name "isinstance" p1) [.Name n p2, .Name y p3] [] p4) p5, .Call (.Name sm p6) [.Attribute (.Name n p7) fld p8, .Call (.Name "tuple" p9) [.Name z p10] [] p11] [] p12] p13)) p14] D' (σ.set i (some (.ref a))) H := by
  have hdH : H dd = some (.xd [(fld, v)]) := hO.ex _ _ hd
  have gl : ∀ {q : Str}, Glo c.sc q → Gl (X.suite a ((a, oe) :: pn)) q := fun h => show Gl X _ from gl_of fx h
  have nz : (X.suite a ((a, oe) :: pn)).N[i]? = some n := by show X.N[i]? = _; rw [fx.ns]; exact hi
  have vn : Vis (X.suite a ((a, oe) :: pn)).env.scope n := by show Vis X.env.scope n; rw [fx.sc]; exact hn
  obtain ⟨j, vz, j1, j2, j3⟩ := hz'.get hE
  have hji : i ≠ j := fun q => hzn (Option.some.inj ((q ▸ j1).symm.trans hi))
  have hil : i < σ.length := by
    rw [hE.len]
    have := (List.getElem?_eq_some_iff.mp hi).1
    rw [List.length_map] at this
    exact this
  have j2' : (σ.set i (some (.ref a)))[j]? = some (some vz) := by rw [List.getElem?_set_ne hji]; exact j2
  have i2 : (σ.set i (some (V.ref a)))[i]? = some (some (.ref a)) := by rw [List.getElem?_set_self hil]
  obtain ⟨f, fd, hF, hm, hkp, hbd⟩ := G
  have hF' : L2H.FnH (X.suite a ((a, oe) :: pn)).prog (X.suite a ((a, oe) :: pn)).w (X.suite a ((a, oe) :: pn)).K (X.suite a ((a, oe) :: pn)).mg (X.suite a ((a, oe) :: pn)).base CX0 k f fd ps t.sp := by
    show L2H.FnH X.prog X.w X.K X.mg X.base CX0 k f fd ps t.sp
    rw [fx.prog, fx.w, fx.K, fx.mg, fx.base]; exact hF
  obtain ⟨fv, hfv⟩ := hf
  have hot : L2H.HotC (X.suite a ((a, oe) :: pn)) := ⟨(a, oe), ⟨rfl, fv, hfv, hz.2.2 fv hfv⟩, List.mem_cons_self⟩
  refine tS.cons (ps_ret (pe_and (pe_not (pe_callB (call_isD T hz.zc ⟨fv, hfv⟩) (gl g1) (by show X.mg _ = _; rw [fx.mg]; exact m1) PyProof.Rows.boot_isinstance (pa_cons (pe_var nz vn dn dn2) (pa_cons (pe_glob (v := .ref N) (gl g3) (by show X.mg y = _; rw [fx.mg]; exact hy) rfl dy) pa_nil (e2 _)) (e1 _)) (he := e1 _) (hpl := b1 _)))
    (pe_one (L2H.pe_callH (E := fun _ => E0) hF' ((⟨fx.roomH.dp, fx.roomH.un⟩ : L2H.RoomH c.k (X.A.mark (some (.ref a)))).mono hk) hot (gl g4) (by show X.mg sm = _; rw [fx.mg]; exact hm) (by show PySem.W.keepIn X.K _ = _; rw [fx.K]; exact hkp) (by show Binds X.K _ _ _; rw [fx.K]; exact hbd) (fun σ pins H s e s' I q => pass0 pins σ H s e s' I q)
      (pa_cons (pe_xf T.F T.hno hz.zc ⟨fv, hfv⟩ (pe_var nz vn dn dn2) (hb _)) (pa_cons (pe_callTy call_tuple_of (gl g2) (by show X.mg _ = _; rw [fx.mg]; exact m2) PyProof.Rows.boot_tuple (pa_cons (pe_var (i := j) (by show X.N[j]? = _; rw [fx.ns]; exact j1) (by show Vis X.env.scope z; rw [fx.sc]; exact hzv) dz dz2) pa_nil (e5 _)) (he := e5 _) (hpl := b3 _)) pa_nil (e4 _)) (e3 _)) ds (e3 _) (b2 _))))) ?_
  have fin : ∀ (l : Addr) (B1 H1 : Hp), Ex B B1 → Own F [] B1 H1 → (Sq false I sc).p B1 (.ref l) → t.sp [v, .ref l] H1 (fun u H' => D'.rt u H') E0 := fun l B1 H1 e O q => by
    refine ⟨sc, F, B1, hpre, by rw [hAs]; exact .cons ((Sq false I sc).mono e hv) (.cons q .nil), by rw [h0]; exact O, fun u B2 H2 e2 O2 p2 => ?_⟩
    rw [h1] at O2
    rw [hS] at p2
    rw [show u = V.bl true from p2]
    exact hQ B2 H2 (e.trans e2) O2
  refine ⟨.ref a, i2, V.ref N, Value.ref N, false, [(fld, v)], rfl, fun u h => h, T.no, hdH, ?_⟩
  refine ⟨false, rfl, true, rfl, ?_⟩
  refine ⟨.ref a, i2, rfl, rfl, dd, [(fld, v)], v, rfl, hdH, by simp [List.lookup], vz, j2', ?_⟩
  obtain ⟨ad, us, rfl, q0, q2⟩ := sq_ho j3
  cases bz with
  | true =>
    refine ⟨ad, us, rfl, .inl ⟨SqL.of (hO.ex _ _ q0), fun l hl => ?_⟩⟩
    obtain ⟨O2, e2⟩ := hO.new (o := .tup us) hl
    exact fin l _ _ e2 O2 ⟨l, us, rfl, upd_same, q2.mp fun _ _ q => q⟩
  | false => exact ⟨ad, us, rfl, .inr ⟨SqT.of (hO.ex _ _ q0), fin ad B H (Ex.refl B) hO ⟨ad, us, rfl, q0, q2⟩⟩⟩
end ZZ

set_option maxHeartbeats 2000000
/-! Z18: a name set to a comprehension with a test. -/
namespace ZZ
open PySem PySem.Spec PyProof.Rows L2
open Evl (Ex)
section
variable {c : Cc} {X : Cx} {B0 F : Hp} {D : Ends} {Γ Γw Γ0 Γ1 : En} {ω ω1 : Ws} {tg it elt t e : Expr} {ifs : List Expr} {scope : Scope} {own : List (Str × Nat)} {α β : Type} {W : Nat → β → Prop} {Rb : β → Sh} {R : α → Sh} {n : Nat} {pos spos py p : Pos} {y x : Str} {rest a b : List Stmt}
theorem ds_lcF [Cold c] {ys : List β} (f : β → α) (pr : β → Bool) (ok : BlkOk (Γ.map (·.1)) c.sc scope own) (hw : Wip Γ own Γw) (hi : DI c Γ ω tg it n W Rb ω1) (hn : ys.length = n) (hW : ∀ i y, i < n → W i y → ys[i]? = some y) (hz : n < sizeLine)
    (hb : ∀ i y, i < n → W i y → ∃ Γb ns, DG ⟨c.M, relS scope c.sc, c.k, false, false⟩ tg ns (Rb y) Γw Γb ∧ (∀ x ∈ ns, x ∈ own.map (·.1)) ∧ DT ⟨c.M, relS scope c.sc, c.k, false, false⟩ Γb ω1 t (· = pr y) ω1 ∧ (pr y = true → DE ⟨c.M, relS scope c.sc, c.k, false, false⟩ Γb ω1 elt (R (f y)) ω1))
    (hp : Put Γ y none Γ0) (k : ∀ l, ∃ Γ1, Put Γ y (some (At l)) Γ1 ∧ DS c X B0 F D Γ1 (ω1 ++ [(l, Cl R ((ys.filter pr).map f))]) rest)
    (hyl : c.sc.names.lookup y = some .local := by exact rfl) (hk : c.sc.kind = .function := by exact rfl) (hln : (py.line == spos.line) = true := by rfl) (hpl : (py.line == pos.line) = true := by rfl) (ha : (scope.names.any fun (n, k) => n == y && (k == .local || k == .cell)) = false := by decide +kernel)
    (hs : ∀ env x, foldedSetIterable it env x = pure x := by intro _ _; rfl) : DS c X B0 F D Γ ω (.Assign [.Name y py] (.ListComp elt [⟨tg, it, [t], 0⟩] scope pos) spos :: rest) := by
  refine ds_lc (R := R) (ifs := [t]) (elt := elt) ok hw hi (fun i zs => zs = ((ys.take i).filter pr).map f) (by simp) hz (.inr ⟨t, rfl⟩) (fun i y zs hi hy hJ => ?_) hp (fun l zs hJ => ?_) hyl hk hln hpl ha hs
  · obtain ⟨Γb, ns, hg, hs, ht, he⟩ := hb i y hi hy
    have hy' := hW i y hi hy
    refine ⟨Γb, ns, (· = pr y), hg, hs, ht, fun q => (he q.symm).wide fun B v z => ⟨f y, ?_, z⟩, fun q => ?_⟩
    · rw [hJ, List.take_add_one, hy', Option.toList_some, List.filter_append, List.map_append]
      simp [List.filter, ← q]
    · rw [hJ, List.take_add_one, hy', Option.toList_some, List.filter_append, List.map_append]
      simp [List.filter, ← q]
  · rw [hJ, List.take_of_length_le (by omega)]
    exact k l
end
end ZZ

set_option maxHeartbeats 2000000
/-! Y1: statements by the value that the text computes: what is left to compute stands in a goal Go G B z. -/
namespace ZZ
open PySem PySem.Spec PyProof.Rows L2
open Evl (Ex)
/-- a value named -/
def lt {α : Sort _} {β : Sort _} (v : α) (k : α → β) : β := k v
/-- how a turn ends -/
inductive Ctl (σ ρ : Type) where
  | nx (s : σ)
  | bk (s : σ)
  | rt (r : ρ)
def forC {σ β ρ : Type} (f : σ → β → Ctl σ ρ) : σ → List β → Ctl σ ρ
  | s, [] => .nx s
  | s, y :: ys => match f s y with
    | .nx s' => forC f s' ys
    | .bk s' => .nx s'
    | .rt r => .rt r
def thn {σ ρ ζ : Type} (z : Ctl σ ρ) (kr : ρ → ζ) (kn : σ → ζ) : ζ := match z with
  | .nx s => kn s
  | .bk s => kn s
  | .rt r => kr r
def okL {σ β : Type} (f : σ → β → σ) (ok : σ → β → Prop) : σ → List β → Prop
  | _, [] => True
  | s, y :: ys => ok s y ∧ okL f ok (f s y) ys
def okC {σ β ρ : Type} (f : σ → β → Ctl σ ρ) (ok : σ → β → Prop) (okk : σ → Prop) : σ → List β → Prop
  | s, [] => okk s
  | s, y :: ys => ok s y ∧ (match f s y with
    | .nx s' => okC f ok okk s' ys
    | .bk s' => okk s'
    | .rt _ => True)
/-- what both branches ask -/
def okI (b : Bool) (p q : Prop) : Prop := (b = true → p) ∧ (b = false → q)
/-- for n turns at most -/
def whC {σ ρ : Type} (c : σ → Bool) (f : σ → Ctl σ ρ) : Nat → σ → Ctl σ ρ
  | 0, s => .nx s
  | n + 1, s => match c s with
    | false => .nx s
    | true => match f s with
      | .nx s' => whC c f n s'
      | .bk s' => .nx s'
      | .rt r => .rt r
/-- the test's word okc, the body's ok, what comes behind okk -/
def okW {σ ρ : Type} (c : σ → Bool) (f : σ → Ctl σ ρ) (okc ok : σ → Prop) (okk : σ → Prop) : Nat → σ → Prop
  | 0, _ => False
  | n + 1, s => okc s ∧ match c s with
    | false => okk s
    | true => ok s ∧ match f s with
      | .nx s' => okW c f okc ok okk n s'
      | .bk s' => okk s'
      | .rt _ => True
structure Go {ζ : Type} (G : Hp → ζ → Prop) (B : Hp) (z : ζ) : Prop where
  h : G B z
  m : ∀ B1 B2 z, Ex B1 B2 → G B1 z → G B2 z
theorem Go.mono {ζ : Type} {G : Hp → ζ → Prop} {B B' : Hp} {z : ζ} (h : Go G B z) (e : Ex B B') : Go G B' z := ⟨h.m _ _ _ e h.h, h.m⟩
theorem Go.rt {ζ : Type} {B0 F : Hp} {rt : VK} {R : ζ → Sh} {ω : ζ → Ws} {z : ζ} (h : Rt B0 F rt (R z) (ω z)) : Go (fun B z => Rt B F rt (R z) (ω z)) B0 z := ⟨h, fun _ _ _ e h => h.mono e⟩
theorem DS.mono {c : Cc} {X : Cx} {B0 B1 F : Hp} {D : Ends} {Γ : En} {ω : Ws} {sts : List Stmt} (h : DS c X B0 F D Γ ω sts) (e : Ex B0 B1) : DS c X B1 F D Γ ω sts := fun fx σ B H hB hE hO => h fx σ B H (e.trans hB) hE hO

/-! ### owned cells in any order -/
theorem Own.perm {F B H : Hp} {ω ω' : Ws} (O : Own F ω B H) (h : ω.Perm ω') : Own F ω' B H :=
  ⟨(h.map _).nodup_iff.mp O.nd, fun l C hm => O.ow l C (h.mem_iff.mpr hm), fun a ha => O.fr a fun z => ha ((h.map (·.1)).mem_iff.mp z)⟩
theorem Tak.perm {ω ω' : Ws} {l : Addr} {C : Co} (h : Tak ω l C ω') : ω.Perm ((l, C) :: ω') := by
  induction h with
  | z => exact List.Perm.refl _
  | s _ ih => exact (ih.cons _).trans (List.Perm.swap _ _ _)
/-- a new owned thing -/
def DNc (c : Cc) (Γ : En) (ω : Ws) (e : Expr) (C : Co) (ω' : Ws) : Prop :=
  ∀ X, Fits c (Γ.map (·.1)) X → ∀ F σ B H, EnvOk Γ σ B → Own F ω B H → ∀ Q : VK, (∀ l B' H', Ex B B' → Own F ((l, C) :: ω') B' H' → Q (.ref l) H') → tW X e σ H Q
theorem DN.c {α : Type} {c : Cc} {Γ : En} {ω ω' : Ws} {e : Expr} {R : α → Sh} {xs : List α} (h : DN c Γ ω e R xs ω') : DNc c Γ ω e (Cl R xs) ω' := fun X fx F σ B H hE hO Q hQ =>
  h X fx F σ B H hE hO Q fun l B' H' e1 O1 => hQ l B' H' e1 (O1.perm (List.perm_append_singleton _ _))
theorem DNc.dn {α : Type} {c : Cc} {Γ : En} {ω ω' : Ws} {e : Expr} {R : α → Sh} {xs : List α} (h : DNc c Γ ω e (Cl R xs) ω') : DN c Γ ω e R xs ω' := fun X fx F σ B H hE hO Q hQ =>
  h X fx F σ B H hE hO Q fun l B' H' e1 O1 => hQ l B' H' e1 (O1.perm (List.perm_append_singleton _ _).symm)
theorem DNc.frz {α : Type} {c : Cc} {Γ : En} {ω ω' : Ws} {e : Expr} {R : α → Sh} {xs : List α} (h : DNc c Γ ω e (Cl R xs) ω') : DE c Γ ω e (L R xs) ω' := h.dn.frz

section
variable {c : Cc} {X : Cx} {B0 F : Hp} {D : Ends} {Γ Γ0 Γ1 Γ2 : En} {ω ω1 ω2 ω3 ωo : Ws} {S T : Sh} {e o i t tg it : Expr} {a b rest sts body : List Stmt} {x : Str} {pos p p2 px : Pos} {α β τ ρ ζ : Type} {R : α → Sh} {v w : α} {kk : α → ζ} {okk : α → Prop} {G : Hp → ζ → Prop} {l : Addr} {C : Co} {bb : Bool}
/-- x = e -/
theorem y_asg (he : DE c Γ ω e (R v) ω1) (hz : Go G B0 (lt v kk)) (hp : lt v okk) (k : ∀ y, Go G B0 (kk y) → okk y → ∃ Γ1, Put Γ x (some (R y)) Γ1 ∧ DS c X B0 F D Γ1 ω1 rest) (hl : Lo c x := by first | exact Or.inl rfl | exact Or.inr ⟨rfl, rfl⟩)
    (hs : ∀ env, swapsWithSole [.Name x px] e pos.line env = pure false := by intro _; rfl) (hw : ∀ env, swappedStores [.Name x px] e env = pure none := by intro _; rfl) : DS c X B0 F D Γ ω (.Assign [.Name x px] e pos :: rest) := by
  obtain ⟨Γ1, hput, k⟩ := k v hz hp
  exact ds_asg he hput k hl hs hw
/-- x = e, a new owned thing -/
theorem y_own {Cv : α → Co} (he : DNc c Γ ω e (Cv v) ω1) (hz : Go G B0 (lt v kk)) (hp : lt v okk) (k : ∀ y, Go G B0 (kk y) → okk y → ∀ l, ∃ Γ1, Put Γ x (some (At l)) Γ1 ∧ DS c X B0 F D Γ1 ((l, Cv y) :: ω1) rest) (hl : Lo c x := by first | exact Or.inl rfl | exact Or.inr ⟨rfl, rfl⟩)
    (hs : ∀ env, swapsWithSole [.Name x px] e pos.line env = pure false := by intro _; rfl) (hw : ∀ env, swappedStores [.Name x px] e env = pure none := by intro _; rfl) : DS c X B0 F D Γ ω (.Assign [.Name x px] e pos :: rest) := by
  have k := k v hz hp
  intro fx σ B H hB hE hO
  obtain ⟨_, hn, _⟩ := k (0 : Nat)
  obtain ⟨j, hj⟩ := hn.ix
  refine tS.cons (ps_asg pe_w (pg_name (i := j) (by rw [fx.ns]; exact fx.nd) (by rw [fx.ns]; exact hj) (fx.lo hl).1 (fx.lo hl).2) (hs _) (hw _) (by rfl)) ?_
  refine he X fx F σ B H hE hO _ fun l B1 H1 e1 O1 => ?_
  obtain ⟨Γ1, hp, k⟩ := k l
  obtain ⟨j', h1, h2⟩ := hp.set
  have e : j' = j := nodup_ix fx.nd h1 hj
  subst e
  exact k (fx.re hp.names) _ B1 H1 (hB.trans e1) (h2 _ _ _ (hE.mono e1) rfl) O1
/-- a, b = e -/
theorem y_asgG {nm : List Str} (he : DE c Γ ω e (R v) ω1) (hz : Go G B0 (lt v kk)) (hp : lt v okk) (k : ∀ y, Go G B0 (kk y) → okk y → ∃ Γ1, DG c tg nm (R y) Γ Γ1 ∧ DS c X B0 F D Γ1 ω1 rest)
    (hs : ∀ env, swapsWithSole [tg] e pos.line env = pure false := by intro _; rfl) (hw : ∀ env, swappedStores [tg] e env = pure none := by intro _; rfl) (h1 : ∀ env, (assignEach [tg] env).map (·.2) = [assign tg env] := by intro _; rfl) : DS c X B0 F D Γ ω (.Assign [tg] e pos :: rest) := by
  obtain ⟨Γ1, hg, k⟩ := k v hz hp
  exact ds_asgG he hg k hs hw h1
/-- x += e -/
theorem y_aug {op : Operator} {f : Int → Int → Int} {i j : Int} {kk : Int → ζ} {okk : Int → Prop} (ho : ∀ X, PIp X op (ipI f)) (hh : Has Γ x (I i)) (he : DE c Γ ω e (I j) ω1) (hz : Go G B0 (lt (f i j) kk)) (hp : lt (f i j) okk) (k : ∀ y, Go G B0 (kk y) → okk y → ∃ Γ1, Put Γ x (some (I y)) Γ1 ∧ DS c X B0 F D Γ1 ω1 rest) (hl : Lo c x := by first | exact Or.inl rfl | exact Or.inr ⟨rfl, rfl⟩) :
    DS c X B0 F D Γ ω (.AugAssign (.Name x px) op e pos :: rest) := by
  obtain ⟨Γ1, hput, k⟩ := k _ hz hp
  exact ds_augI ho hh he hput k hl
theorem y_augAdd {i j : Int} {kk : Int → ζ} {okk : Int → Prop} (hh : Has Γ x (I i)) (he : DE c Γ ω e (I j) ω1) (hz : Go G B0 (lt (i + j) kk)) (hp : lt (i + j) okk) (k : ∀ y, Go G B0 (kk y) → okk y → ∃ Γ1, Put Γ x (some (I y)) Γ1 ∧ DS c X B0 F D Γ1 ω1 rest) (hl : Lo c x := by first | exact Or.inl rfl | exact Or.inr ⟨rfl, rfl⟩) :
    DS c X B0 F D Γ ω (.AugAssign (.Name x px) .Add e pos :: rest) := y_aug (f := fun i j => i + j) (fun _ => ip_add) hh he hz hp k hl
theorem y_augSub {i j : Int} {kk : Int → ζ} {okk : Int → Prop} (hh : Has Γ x (I i)) (he : DE c Γ ω e (I j) ω1) (hz : Go G B0 (lt (i - j) kk)) (hp : lt (i - j) okk) (k : ∀ y, Go G B0 (kk y) → okk y → ∃ Γ1, Put Γ x (some (I y)) Γ1 ∧ DS c X B0 F D Γ1 ω1 rest) (hl : Lo c x := by first | exact Or.inl rfl | exact Or.inr ⟨rfl, rfl⟩) :
    DS c X B0 F D Γ ω (.AugAssign (.Name x px) .Sub e pos :: rest) := y_aug (f := fun i j => i - j) (fun _ => ip_sub) hh he hz hp k hl
/-- if: the branches go their ways -/
theorem y_ite {k : Bool} {z1 z2 : ζ} {q1 q2 : Prop} (ht : DT c Γ ω t (· = k) ω1) (hz : Go G B0 (cond k z1 z2)) (hp : okI k q1 q2) (h1 : k = true → Go G B0 z1 → q1 → DS c X B0 F { D with nx := tS X rest D } Γ ω1 a) (h2 : k = false → Go G B0 z2 → q2 → DS c X B0 F { D with nx := tS X rest D } Γ ω1 b) : DS c X B0 F D Γ ω (.If t a b pos :: rest) := by
  refine ds_if ht (fun h => ?_) (fun h => ?_)
  · have h : k = true := h.symm
    subst h
    exact h1 rfl hz (hp.1 rfl)
  · have h : k = false := h.symm
    subst h
    exact h2 rfl hz (hp.2 rfl)
/-- if: the branches meet, names and cells are told by one value -/
theorem y_ifL {k : Bool} {q1 q2 : Prop} (env : α → En) (cel : α → Ws) (ht : DT c Γ ω t (· = k) ω1) (hz : Go G B0 (lt (cond k v w) kk)) (hp : okI k q1 q2 ∧ lt (cond k v w) okk)
    (h1 : k = true → q1 → Go (fun B s => DS c X B F { D with nx := tS X rest D } (env s) (cel s) []) B0 v → DS c X B0 F { D with nx := tS X rest D } Γ ω1 a)
    (h2 : k = false → q2 → Go (fun B s => DS c X B F { D with nx := tS X rest D } (env s) (cel s) []) B0 w → DS c X B0 F { D with nx := tS X rest D } Γ ω1 b)
    (hr : ∀ y, Go G B0 (kk y) → okk y → DS c X B0 F D (env y) (cel y) rest) : DS c X B0 F D Γ ω (.If t a b pos :: rest) := by
  have key : Go (fun B s => DS c X B F { D with nx := tS X rest D } (env s) (cel s) []) B0 (cond k v w) := ⟨ds_next (hr _ hz hp.2), fun _ _ _ e h => h.mono e⟩
  refine ds_if ht (fun h => ?_) (fun h => ?_)
  · have h : k = true := h.symm
    subst h
    exact h1 rfl (hp.1.1 rfl) key
  · have h : k = false := h.symm
    subst h
    exact h2 rfl (hp.1.2 rfl) key
/-- .. with addresses that the branches choose -/
theorem y_ifA {lT : Type} {k : Bool} {q1 q2 : Prop} (env : α → lT → En) (cel : α → lT → Ws) (ht : DT c Γ ω t (· = k) ω1) (hz : Go G B0 (lt (cond k v w) kk)) (hp : okI k q1 q2 ∧ lt (cond k v w) okk)
    (h1 : k = true → q1 → Go (fun B s => ∀ l, DS c X B F { D with nx := tS X rest D } (env s l) (cel s l) []) B0 v → DS c X B0 F { D with nx := tS X rest D } Γ ω1 a)
    (h2 : k = false → q2 → Go (fun B s => ∀ l, DS c X B F { D with nx := tS X rest D } (env s l) (cel s l) []) B0 w → DS c X B0 F { D with nx := tS X rest D } Γ ω1 b)
    (hr : ∀ y, Go G B0 (kk y) → okk y → ∀ l, DS c X B0 F D (env y l) (cel y l) rest) : DS c X B0 F D Γ ω (.If t a b pos :: rest) := by
  have key : Go (fun B s => ∀ l, DS c X B F { D with nx := tS X rest D } (env s l) (cel s l) []) B0 (cond k v w) := ⟨fun l => ds_next (hr _ hz hp.2 l), fun _ _ _ e h l => (h l).mono e⟩
  refine ds_if ht (fun h => ?_) (fun h => ?_)
  · have h : k = true := h.symm
    subst h
    exact h1 rfl (hp.1.1 rfl) key
  · have h : k = false := h.symm
    subst h
    exact h2 rfl (hp.1.2 rfl) key
/-- if: some ways end, the others meet -/
theorem y_ifJ {k : Bool} {q1 q2 : (α → Prop) → Prop} {z1 z2 : (α → ζ) → ζ} (env : α → En) (cel : α → Ws) (ht : DT c Γ ω t (· = k) ω1) (hz : Go G B0 (lt kk fun kn => cond k (z1 kn) (z2 kn))) (hp : lt okk fun kn => okI k (q1 kn) (q2 kn))
    (h1 : ∀ kn ko, (∀ s, Go G B0 (kn s) → ko s → DS c X B0 F { D with nx := tS X rest D } (env s) (cel s) []) → k = true → Go G B0 (z1 kn) → q1 ko → DS c X B0 F { D with nx := tS X rest D } Γ ω1 a)
    (h2 : ∀ kn ko, (∀ s, Go G B0 (kn s) → ko s → DS c X B0 F { D with nx := tS X rest D } (env s) (cel s) []) → k = false → Go G B0 (z2 kn) → q2 ko → DS c X B0 F { D with nx := tS X rest D } Γ ω1 b)
    (hr : ∀ y, Go G B0 (kk y) → okk y → DS c X B0 F D (env y) (cel y) rest) : DS c X B0 F D Γ ω (.If t a b pos :: rest) := by
  have key : ∀ s, Go G B0 (kk s) → okk s → DS c X B0 F { D with nx := tS X rest D } (env s) (cel s) [] := fun s h1 h2 => ds_next (hr s h1 h2)
  refine ds_if ht (fun h => ?_) (fun h => ?_)
  · have h : k = true := h.symm
    subst h
    exact h1 kk okk key rfl hz (hp.1 rfl)
  · have h : k = false := h.symm
    subst h
    exact h2 kk okk key rfl hz (hp.2 rfl)
/-- the end of a way that meets others; names may be forgotten -/
theorem y_end {env : α → En} {cel : α → Ws} {s : α} (hz : Go (fun B s => DS c X B F D (env s) (cel s) []) B0 s) (f : Fg Γ (env s)) (hω : ω.Perm (cel s)) : DS c X B0 F D Γ ω [] := fun fx σ B H hB hE hO => hz.h (fx.re f.names) σ B H hB (f.env hE) (hO.perm hω)
/-- .. of one that is told by a function -/
theorem y_endK {env : α → En} {cel : α → Ws} {s : α} {kn : α → ζ} {ko : α → Prop} (hr : ∀ s, Go G B0 (kn s) → ko s → DS c X B0 F D (env s) (cel s) []) (hz : Go G B0 (kn s)) (hp : ko s) (f : Fg Γ (env s)) (hω : ω.Perm (cel s)) : DS c X B0 F D Γ ω [] := fun fx σ B H hB hE hO => hr s hz hp (fx.re f.names) σ B H hB (f.env hE) (hO.perm hω)
/-- names forgotten, cells in another order -/
theorem y_re (f : Fg Γ Γ1) (hω : ω.Perm ω1) (h : DS c X B0 F D Γ1 ω1 sts) : DS c X B0 F D Γ ω sts := fun fx σ B H hB hE hO => h (fx.re f.names) σ B H hB (f.env hE) (hO.perm hω)
/-- an owned cell is let go -/
theorem y_drop (ht : Tak ω l C ω1) (h : DS c X B0 F D Γ ω1 sts) : DS c X B0 F D Γ ω sts := fun fx σ B H hB hE hO => by
  obtain ⟨o, _, _, O', e⟩ := hO.freeze ht
  exact h fx σ _ H (hB.trans e) (hE.mono e) O'

/-! ### loops -/
/-- what is walked, as a list -/
abbrev DIl {β : Type} (c : Cc) (Γ : En) (ω : Ws) (tg it : Expr) (ys : List β) (Rb : β → Sh) (ω' : Ws) : Prop := DI c Γ ω tg it ys.length (fun i y => ys[i]? = some y) Rb ω'
theorem y_for [Cold c] {f : τ → β → τ} {ok : τ → β → Prop} {s0 : τ} {ys : List β} {Rb : β → Sh} {kk : τ → ζ} {okk : τ → Prop} (env : τ → En) (cel : τ → Ws) (hi : DIl c Γ ω tg it ys Rb ω1) (hf : Fg Γ (env s0)) (hω : ω1.Perm (cel s0)) (hN : ∀ s, (env s).map (·.1) = Γ.map (·.1)) (hz : Go G B0 (lt (List.foldl f s0 ys) kk)) (hp : okL f ok s0 ys ∧ lt (List.foldl f s0 ys) okk)
    (hb : ∀ Db B1, Ex B0 B1 → Db.rt = D.rt → ∀ s y, ok s y → Go (fun B s' => DS c X B F Db (env s') (cel s') []) B1 (f s y) → ∃ Γb ns, DG c tg ns (Rb y) (env s) Γb ∧ DS c X B1 F Db Γb (cel s) body)
    (hd : ∀ s, Go G B0 (kk s) → okk s → DS c X B0 F D (env s) (cel s) rest) (hs : ∀ env x, foldedSetIterable it env x = pure x := by intro _ _; rfl) : DS c X B0 F D Γ ω (.For tg it body [] pos :: rest) := by
  have key : ∀ i, okL f ok (List.foldl f s0 (ys.take i)) (ys.drop i) := by
    intro i
    induction i with
    | zero => exact hp.1
    | succ i ih =>
      by_cases hi : i < ys.length
      · rw [List.drop_eq_getElem_cons hi] at ih
        rw [List.take_add_one, List.getElem?_eq_getElem hi, Option.toList_some, List.foldl_append]
        exact ih.2
      · rw [List.drop_of_length_le (by omega)]
        trivial
  have hi' : DI c Γ ω tg it ys.length (fun i y => ys[i]? = some y) Rb ω1 := hi
  intro fx σ B H hB hE hO
  refine ds_for (B0 := B0) (F := F) (D := D) (fun i Γi ωi => Γi = env (List.foldl f s0 (ys.take i)) ∧ ωi = cel (List.foldl f s0 (ys.take i))) (Γ0 := env s0) (ω1 := cel s0) (rest := rest) (pos := pos) (n := ys.length) (Rb := Rb) (W := fun i y => ys[i]? = some y) ?_ hf ⟨rfl, rfl⟩ ?_ ?_ hs fx σ B H hB hE hO
  · intro X fx F σ B H hE hO R hR
    exact hi' X fx F σ B H hE hO R fun J B' H' e O h => hR J B' H' e (O.perm hω) h
  · rintro B1 hB1 i y Γi ωi hi hy ⟨rfl, rfl⟩ hNi
    have hk := key i
    rw [List.drop_eq_getElem_cons hi] at hk
    have ey : ys[i] = y := by rw [List.getElem?_eq_getElem hi] at hy; exact Option.some.inj hy
    rw [ey] at hk
    refine hb _ B1 hB1 ?_ _ y hk.1 ⟨?_, fun _ _ _ e h => h.mono e⟩
    · rfl
    refine ds_nil fun σ' B' H' h1 h2 h3 => ?_
    refine ⟨_, _, B', ⟨rfl, rfl⟩, (hN _), h1, ?_, ?_⟩
    · rw [List.take_add_one, hy, Option.toList_some, List.foldl_append]; exact h2
    · rw [List.take_add_one, hy, Option.toList_some, List.foldl_append]; exact h3
  · rintro Γi ωi ⟨rfl, rfl⟩ hNi
    rw [List.take_length]
    exact hd _ hz hp.2
theorem y_forC [Cold c] {f : τ → β → Ctl τ ρ} {ok : τ → β → Prop} {s0 : τ} {ys : List β} {Rb : β → Sh} {kr : ρ → ζ} {kk : τ → ζ} {okk : τ → Prop} (env : τ → En) (cel : τ → Ws) (hi : DIl c Γ ω tg it ys Rb ω1) (hf : Fg Γ (env s0)) (hω : ω1.Perm (cel s0)) (hN : ∀ s, (env s).map (·.1) = Γ.map (·.1)) (hz : Go G B0 (thn (forC f s0 ys) kr kk)) (hp : okC f ok okk s0 ys)
    (hb : ∀ Db B1, Ex B0 B1 → Db.rt = D.rt → ∀ s y, ok s y → Go (fun B z => match z with
        | .nx s' => DS c X B F Db (env s') (cel s') [] ∧ ∀ pc rc, DS c X B F Db (env s') (cel s') (.Continue pc :: rc)
        | .bk s' => ∀ pc rc, DS c X B F Db (env s') (cel s') (.Break pc :: rc)
        | .rt r => Go G B (kr r)) B1 (f s y) → ∃ Γb ns, DG c tg ns (Rb y) (env s) Γb ∧ DS c X B1 F Db Γb (cel s) body)
    (hd : ∀ s, Go G B0 (kk s) → okk s → DS c X B0 F D (env s) (cel s) rest) (hs : ∀ env x, foldedSetIterable it env x = pure x := by intro _ _; rfl) : DS c X B0 F D Γ ω (.For tg it body [] pos :: rest) := by
  have hi' : DI c Γ ω tg it ys.length (fun i y => ys[i]? = some y) Rb ω1 := hi
  intro fx σ B H hB hE hO
  refine ds_for (B0 := B0) (F := F) (D := D) (fun i Γi ωi => ∃ s, Γi = env s ∧ ωi = cel s ∧ forC f s0 ys = forC f s (ys.drop i) ∧ okC f ok okk s (ys.drop i)) (Γ0 := env s0) (ω1 := cel s0) (rest := rest) (pos := pos) (n := ys.length) (Rb := Rb) (W := fun i y => ys[i]? = some y) ?_ hf ⟨s0, rfl, rfl, by rw [List.drop_zero], by rw [List.drop_zero]; exact hp⟩ ?_ ?_ hs fx σ B H hB hE hO
  · intro X fx F σ B H hE hO R hR
    exact hi' X fx F σ B H hE hO R fun J B' H' e O h => hR J B' H' e (O.perm hω) h
  · rintro B1 hB1 i y Γi ωi hi hy ⟨s, rfl, rfl, he, hk⟩ hNi
    rw [List.drop_eq_getElem_cons hi] at hk he
    have ey : ys[i] = y := by rw [List.getElem?_eq_getElem hi] at hy; exact Option.some.inj hy
    rw [ey] at hk he
    refine hb _ B1 hB1 ?_ _ y hk.1 ⟨?_, fun B1 B2 z e h => ?_⟩
    · rfl
    · cases hf : f s y with
      | nx s' =>
        have hk2 := hk.2
        rw [hf] at hk2
        have he2 : forC f s0 ys = forC f s' (ys.drop (i + 1)) := by rw [he, forC, hf]
        refine ⟨ds_nil fun σ' B' H' h1 h2 h3 => ?_, fun pc rc => ds_cont fun σ' B' H' h1 h2 h3 => ?_⟩
        · exact ⟨_, _, B', ⟨s', rfl, rfl, he2, hk2⟩, hN _, h1, h2, h3⟩
        · exact ⟨_, _, B', ⟨s', rfl, rfl, he2, hk2⟩, hN _, h1, h2, h3⟩
      | bk s' =>
        have hk2 := hk.2
        rw [hf] at hk2
        have he2 : forC f s0 ys = .nx s' := by rw [he, forC, hf]
        refine fun pc rc => ds_brk fun σ' B' H' h1 h2 h3 => ?_
        rw [he2] at hz
        exact hd s' hz hk2 (fx.re (hN _)) σ' B' H' (hB1.trans h1) h2 h3
      | rt r =>
        have he2 : forC f s0 ys = .rt r := by rw [he, forC, hf]
        rw [he2] at hz
        exact (show Go G B0 (kr r) from hz).mono hB1
    · cases z with
      | nx s' => exact ⟨h.1.mono e, fun pc rc => (h.2 pc rc).mono e⟩
      | bk s' => exact fun pc rc => (h pc rc).mono e
      | rt r => exact Go.mono h e
  · rintro Γi ωi ⟨s, rfl, rfl, he, hk⟩ hNi
    rw [List.drop_length] at he hk
    rw [he] at hz
    exact hd s hz hk
theorem y_rt {G' : Hp → ρ → Prop} {r : ρ} (hz : Go G' B0 r) : G' B0 r := hz.h
end
end ZZ

set_option maxHeartbeats 2000000
/-! Y2: what the text's expressions compute, by canonical functions; their rules. -/
namespace ZZ
open PySem PySem.Spec PyProof.Rows L2
open Evl (Ex)
/-! ### the functions -/
def gt {α : Type} [Inhabited α] (xs : List α) (k : Int) : α := if 0 ≤ k then xs.getD k.toNat default else xs.getD (k + xs.length).toNat default
def okx {α : Type} (xs : List α) (k : Int) : Prop := -(xs.length : Int) ≤ k ∧ k < xs.length
theorem gt_at {α : Type} [Inhabited α] {xs : List α} {k : Int} (h : okx xs k) : L2.atI xs k = some (gt xs k) := by
  obtain ⟨h1, h2⟩ := h
  unfold gt L2.atI ixN
  by_cases q : 0 ≤ k
  · rw [if_pos q, if_pos q, if_pos h2]
    show xs[k.toNat]? = _
    rw [List.getD_eq_getElem?_getD, List.getElem?_eq_getElem (by omega)]; rfl
  · rw [if_neg q, if_neg q, if_pos h1]
    show xs[(k + xs.length).toNat]? = _
    rw [List.getD_eq_getElem?_getD, List.getElem?_eq_getElem (by omega)]; rfl
theorem gt_nat {α : Type} [Inhabited α] {xs : List α} {k : Nat} : gt xs (k : Int) = xs.getD k default := by
  unfold gt
  rw [if_pos (by omega)]; rfl
theorem gt_some {α : Type} [Inhabited α] {xs : List α} {k : Nat} {v : α} (h : xs[k]? = some v) : gt xs (k : Int) = v := by
  rw [gt_nat, List.getD_eq_getElem?_getD, h]; rfl
theorem okx_nat {α : Type} {xs : List α} {k : Nat} (h : k < xs.length) : okx xs (k : Int) := ⟨by omega, by omega⟩
/-- the place of an index -/
def ixv (n : Nat) (k : Int) : Nat := if 0 ≤ k then k.toNat else (k + n).toNat
theorem ixv_of {α : Type} {xs : List α} {k : Int} (h : okx xs k) : ixN xs.length k = some (ixv xs.length k) := by
  obtain ⟨h1, h2⟩ := h
  unfold ixN ixv
  by_cases q : 0 ≤ k
  · rw [if_pos q, if_pos q, if_pos h2]
  · rw [if_neg q, if_neg q, if_pos h1]
def stx {α : Type} (xs : List α) (k : Int) (v : α) : List α := xs.set (ixv xs.length k) v
def rng (i j : Int) : List Int := (List.range (j - i).toNat).map fun (k : Nat) => i + (k : Int)
def rngD (i j : Int) : List Int := (List.range (i - j).toNat).map fun (k : Nat) => i - (k : Int)
def enm {α : Type} (xs : List α) : List (Int × α) := xs.zipIdx.map fun p => ((p.2 : Int), p.1)
def okr (i j : Int) : Prop := -(2 ^ 62) ≤ i ∧ i < 2 ^ 62 ∧ -(2 ^ 62) ≤ j ∧ j < 2 ^ 62
def oks {α : Type} (xs : List α) : Prop := xs.length < 16777216
def okall {α : Type} (P : α → Prop) (xs : List α) : Prop := ∀ x ∈ xs, P x
def gtl {α : Type} [Inhabited α] (xs : List α) : α := xs.getD (xs.length - 1) default
def mxl (xs : List Int) : Int := xs.foldr max (xs.headD 0)
def mnl (xs : List Int) : Int := xs.foldr min (xs.headD 0)
def b2i (b : Bool) : Int := if b then 1 else 0
def gso {α : Type} [Inhabited α] (o : Option α) : α := o.getD default
theorem len_rng {i j : Int} : (rng i j).length = (j - i).toNat := by simp [rng]
theorem rng_at {i j : Int} {k : Nat} {v : Int} (h : (rng i j)[k]? = some v) : v = i + k ∧ k < (j - i).toNat := by
  unfold rng at h
  rw [List.getElem?_map] at h
  by_cases hk : k < (j - i).toNat
  · rw [List.getElem?_range hk] at h
    exact ⟨(Option.some.inj h).symm, hk⟩
  · rw [List.getElem?_eq_none (by rw [List.length_range]; omega)] at h
    cases h
theorem at_rng {i j : Int} {k : Nat} (h : k < (j - i).toNat) : (rng i j)[k]? = some (i + k) := by
  unfold rng
  rw [List.getElem?_map, List.getElem?_range h]; rfl
theorem at_rngD {i j : Int} {k : Nat} (h : k < (i - j).toNat) : (rngD i j)[k]? = some (i - k) := by
  unfold rngD
  rw [List.getElem?_map, List.getElem?_range h]; rfl
theorem len_enm {α : Type} {xs : List α} : (enm xs).length = xs.length := by simp [enm]
theorem at_enm {α : Type} {xs : List α} {k : Nat} {v : α} (h : xs[k]? = some v) : (enm xs)[k]? = some ((k : Int), v) := by
  unfold enm
  rw [List.getElem?_map, List.getElem?_zipIdx, h]
  simp
theorem mxl_spec : ∀ {xs : List Int}, xs ≠ [] → mxl xs ∈ xs ∧ ∀ y ∈ xs, y ≤ mxl xs := by
  have key : ∀ (xs : List Int) (d : Int), (xs.foldr max d ∈ xs ∨ xs.foldr max d = d) ∧ d ≤ xs.foldr max d ∧ ∀ y ∈ xs, y ≤ xs.foldr max d := by
    intro xs d
    induction xs with
    | nil => exact ⟨.inr rfl, by simp, by simp⟩
    | cons x xs ih =>
      obtain ⟨h1, h2, h3⟩ := ih
      rw [List.foldr_cons]
      refine ⟨?_, by omega, fun y hy => ?_⟩
      · by_cases q : xs.foldr max d ≤ x
        · exact .inl (by rw [Int.max_eq_left q]; exact List.mem_cons_self)
        · rw [Int.max_eq_right (by omega)]
          exact h1.imp (fun z => List.mem_cons_of_mem _ z) id
      · rcases List.mem_cons.mp hy with rfl | hy
        · omega
        · have := h3 y hy; omega
  intro xs h
  cases xs with
  | nil => exact absurd rfl h
  | cons x xs =>
    obtain ⟨h1, h2, h3⟩ := key (x :: xs) x
    refine ⟨?_, h3⟩
    rcases h1 with h1 | h1
    · exact h1
    · show List.foldr max x (x :: xs) ∈ _
      rw [h1]; exact List.mem_cons_self
theorem mnl_spec : ∀ {xs : List Int}, xs ≠ [] → mnl xs ∈ xs ∧ ∀ y ∈ xs, mnl xs ≤ y := by
  have key : ∀ (xs : List Int) (d : Int), (xs.foldr min d ∈ xs ∨ xs.foldr min d = d) ∧ xs.foldr min d ≤ d ∧ ∀ y ∈ xs, xs.foldr min d ≤ y := by
    intro xs d
    induction xs with
    | nil => exact ⟨.inr rfl, by simp, by simp⟩
    | cons x xs ih =>
      obtain ⟨h1, h2, h3⟩ := ih
      rw [List.foldr_cons]
      refine ⟨?_, by omega, fun y hy => ?_⟩
      · by_cases q : x ≤ xs.foldr min d
        · exact .inl (by rw [Int.min_eq_left q]; exact List.mem_cons_self)
        · rw [Int.min_eq_right (by omega)]
          exact h1.imp (fun z => List.mem_cons_of_mem _ z) id
      · rcases List.mem_cons.mp hy with rfl | hy
        · omega
        · have := h3 y hy; omega
  intro xs h
  cases xs with
  | nil => exact absurd rfl h
  | cons x xs =>
    obtain ⟨h1, h2, h3⟩ := key (x :: xs) x
    refine ⟨?_, h3⟩
    rcases h1 with h1 | h1
    · exact h1
    · show List.foldr min x (x :: xs) ∈ _
      rw [h1]; exact List.mem_cons_self

/-! ### shapes -/
def Nn : Unit → Sh := fun _ => No
def Oq {α : Type} (R : α → Sh) : Option α → Sh
  | none => No
  | some x => R x
abbrev pr2 {α β : Type} (R : α → Sh) (T : β → Sh) (x : α × β) : Sh := U [R x.1, T x.2]
abbrev pr3 {α β γ : Type} (R : α → Sh) (T : β → Sh) (U' : γ → Sh) (x : α × β × γ) : Sh := U [R x.1, T x.2.1, U' x.2.2]
abbrev pr4 {α β γ δ : Type} (R : α → Sh) (T : β → Sh) (U' : γ → Sh) (W : δ → Sh) (x : α × β × γ × δ) : Sh := U [R x.1, T x.2.1, U' x.2.2.1, W x.2.2.2]
abbrev pr5 {α β γ δ ε : Type} (R : α → Sh) (T : β → Sh) (U' : γ → Sh) (W : δ → Sh) (Y : ε → Sh) (x : α × β × γ × δ × ε) : Sh := U [R x.1, T x.2.1, U' x.2.2.1, W x.2.2.2.1, Y x.2.2.2.2]
theorem oq_gso {α : Type} [Inhabited α] {R : α → Sh} {o : Option α} (h : o.isSome = true) : Oq R o = R (gso o) := by
  cases o with
  | none => cases h
  | some x => rfl
theorem nonb_oq {α : Type} {R : α → Sh} (hR : ∀ x, NonB (R x) false) : ∀ {o : Option α}, NonB (Oq R o) o.isNone
  | none => nonb_No
  | some x => hR x
section
variable {c : Cc} {X : Cx} {B0 F : Hp} {D : Ends} {Γ Γ0 Γ1 Γ2 Γw : En} {ω ω1 ω2 ω3 ωo : Ws} {S T : Sh} {e o i t tg it a b d elt : Expr} {es : List Expr} {rest sts body : List Stmt} {x y : Str} {pos p p2 px py spos : Pos} {α β τ ρ ζ δ : Type} {R : α → Sh} {Rb : β → Sh} {Rs : α → Sh} {v w : α} {xs : List α} {ys : List β} {kk : α → ζ} {okk : α → Prop} {G : Hp → ζ → Prop} {l : Addr} {C : Co} {bb b1 b2 : Bool} {k j : Int} {scope : Scope} {own : List (Str × Nat)}
theorem d_at [Inhabited α] (hk : okx xs k) (ha : DE c Γ ω a (Sq bb Rs xs) ω1) (hb : DE c Γ ω1 b (I k) ω2) (hs : PlainIx b := by exact fun _ _ => rfl) : DE c Γ ω (.Subscript a b pos) (Rs (gt xs k)) ω2 := d_ix ha hb (gt_at hk) hs
theorem d_atO [Inhabited α] (hk : okx xs k) (ha : DE c Γ ω a (At l) ω1) (hb : DE c Γ ω1 b (I k) ω2) (hm : Hold ω2 l (Cl Rs xs)) (hs : PlainIx b := by exact fun _ _ => rfl) : DE c Γ ω (.Subscript a b pos) (Rs (gt xs k)) ω2 := d_ixO ha hb hm (gt_at hk) hs
theorem d_atK [Inhabited α] (hk : okx xs k) (ha : DE c Γ ω a (Sq bb Rs xs) ω1) (hb : DE c Γ ω1 b (I k) ω2) (hs : PlainIx b := by exact fun _ _ => rfl) : DE c Γ ω (.Subscript a b pos) (Rs (gt xs k)) ω2 := d_ix ha hb (gt_at hk) hs
theorem d_ifB {k : Bool} (ht : DT c Γ ω d (· = k) ω1) (ha : k = true → DE c Γ ω1 a (R v) ω2) (hb : k = false → DE c Γ ω1 b (R w) ω2) : DE c Γ ω (.IfExp d a b pos) (R (cond k v w)) ω2 := d_if ht (fun h => by subst h; exact ha rfl) (fun h => by subst h; exact hb rfl)
theorem d_gso [Inhabited α] {o : Option α} (hk : o.isSome = true) (h : DE c Γ ω e (Oq R o) ω1) : DE c Γ ω e (R (gso o)) ω1 := by
  rw [← oq_gso (R := R) hk]; exact h
theorem d_b2i {k : Bool} (ha : DE c Γ ω a (Bo k) ω1) (hm : c.M.mg "int" = none) (hg : Glo c.sc "int" := by exact rfl) (he : ∀ env, starEach [a] env = (false, eval a env) :: starEach [] env := by intro _; rfl) : DE c Γ ω (.Call (.Name "int" p) [a] [] pos) (I (b2i k)) ω1 := d_intB ha hm hg he
theorem w_and {k l : Bool} (ha : DT c Γ ω a (· = k) ω1) (hb : k = true → DV c Γ ω1 (.BoolOp .And (b :: es) pos) (· = l) ω1) : DV c Γ ω (.BoolOp .And (a :: b :: es) pos) (· = (k && l)) ω1 := by
  intro X fx F σ B H hE hO Q hQ
  refine tV.of (pw_and pt_w pv_w) ?_
  refine ha X fx F σ B H hE hO _ fun v B1 H1 e1 O1 p1 => ?_
  have p1 : v = k := p1
  subst p1
  cases v with
  | false => exact hQ _ B1 H1 e1 O1 rfl
  | true => exact hb rfl X fx F σ B1 H1 (hE.mono e1) O1 _ fun u B2 H2 e2 O2 p2 => hQ u B2 H2 (e1.trans e2) O2 p2
theorem w_or {k l : Bool} (ha : DT c Γ ω a (· = k) ω1) (hb : k = false → DV c Γ ω1 (.BoolOp .Or (b :: es) pos) (· = l) ω1) : DV c Γ ω (.BoolOp .Or (a :: b :: es) pos) (· = (k || l)) ω1 := by
  intro X fx F σ B H hE hO Q hQ
  refine tV.of (pw_or pt_w pv_w) ?_
  refine ha X fx F σ B H hE hO _ fun v B1 H1 e1 O1 p1 => ?_
  have p1 : v = k := p1
  subst p1
  cases v with
  | true => exact hQ _ B1 H1 e1 O1 rfl
  | false => exact hb rfl X fx F σ B1 H1 (hE.mono e1) O1 _ fun u B2 H2 e2 O2 p2 => hQ u B2 H2 (e1.trans e2) O2 p2
/-- max, min of a list -/
theorem d_mxl [Cold c] {ns : List Int} (hn : ns ≠ []) (ha : DE c Γ ω a (L I ns) ω1) (hm : c.M.mg "max" = none) (hg : Glo c.sc "max" := by exact rfl) (he : ∀ env, starEach [a] env = (false, eval a env) :: starEach [] env := by intro _; rfl) : DE c Γ ω (.Call (.Name "max" p) [a] [] pos) (I (mxl ns)) ω1 := d_maxL ha (mxl_spec hn).1 (mxl_spec hn).2 hm hg he
theorem d_mnl [Cold c] {ns : List Int} (hn : ns ≠ []) (ha : DE c Γ ω a (L I ns) ω1) (hm : c.M.mg "min" = none) (hg : Glo c.sc "min" := by exact rfl) (he : ∀ env, starEach [a] env = (false, eval a env) :: starEach [] env := by intro _; rfl) : DE c Γ ω (.Call (.Name "min" p) [a] [] pos) (I (mnl ns)) ω1 := d_minL ha (mnl_spec hn).1 (mnl_spec hn).2 hm hg he
/-- xs.pop() -/
theorem d_popL [Inhabited α] {apos cpos : Pos} (hx : xs ≠ []) (ho : DE c Γ ω o (At l) ω) (hs : Swp ω l (Cl Rs xs) (Cl Rs xs.dropLast) ω1) (hb : ∀ env, attributeBase o "pop" env (eval o env) = eval o env := by intro _; rfl) (hln : (apos.endLine == cpos.line) = true := by rfl) :
    DE c Γ ω (.Call (.Attribute o "pop" apos) [] [] cpos) (Rs (gtl xs)) ω1 := by
  have e : xs = xs.dropLast ++ [gtl xs] := by
    have hl : 0 < xs.length := List.length_pos_iff.mpr hx
    unfold gtl
    rw [List.getD_eq_getElem?_getD, List.getElem?_eq_getElem (by omega)]
    have := List.dropLast_concat_getLast hx
    rw [List.getLast_eq_getElem] at this
    exact this.symm
  have hs' : Swp ω l (Cl Rs (xs.dropLast ++ [gtl xs])) (Cl Rs xs.dropLast) ω1 := e ▸ hs
  exact d_pop ho hs' hb hln
/-- a call of a def that changes lent things -/
theorem d_callP [Cold c] {τ : Type} {t : Ct τ} {k : Nat} {ps : List Str} {ss : List Sh} {rest : Ws} (g : τ) (Gx : Gd c.M k x ps t) (hp : t.pre g) (ht : ω1.Perm (t.ω g ++ rest)) (ht' : (t.ω' g ++ rest).Perm ω2) (ha : DA c Γ ω (e :: es) ss ω1) (hs : ss = t.As g := by rfl) (hk : k ≤ c.k := by exact Nat.le_of_ble_eq_true rfl)
    (hg : Glo c.sc x := by exact rfl) (hdb : (x == ("__debug__" : Str)) = false := by decide) (he : ∀ env, starEach (e :: es) env = (false, eval e env) :: starEach es env := by intro _; rfl) (hpl : ∀ env, (backTo pos (starEach es env)).any (·.1) = false := by intro _; rfl) :
    DE c Γ ω (.Call (.Name x p) (e :: es) [] pos) (t.S g) ω2 := by
  have ha' : DA c Γ ω (e :: es) ss (t.ω g ++ rest) := fun X fx F σ B H hE hO Q hQ => ha X fx F σ B H hE hO Q fun vs B' H' e1 O1 => hQ vs B' H' e1 (O1.perm ht)
  have h := d_call (p := p) (pos := pos) (rest := rest) g Gx hk ha' hs hp rfl hg hdb he hpl
  exact fun X fx F σ B H hE hO Q hQ => h X fx F σ B H hE hO Q fun v B' H' e1 O1 => hQ v B' H' e1 (O1.perm ht')
theorem d_callQ [Cold c] {τ : Type} {t : Ct τ} {k : Nat} {ps : List Str} {ss : List Sh} (g : τ) (Gx : Gd c.M k x ps t) (hp : t.pre g) (ha : DA c Γ ω (e :: es) ss ω1) (hs : ss = t.As g := by rfl) (hk : k ≤ c.k := by exact Nat.le_of_ble_eq_true rfl) (h0 : t.ω g = [] := by rfl) (h1 : t.ω' g = [] := by rfl)
    (hg : Glo c.sc x := by exact rfl) (hdb : (x == ("__debug__" : Str)) = false := by decide) (he : ∀ env, starEach (e :: es) env = (false, eval e env) :: starEach es env := by intro _; rfl) (hpl : ∀ env, (backTo pos (starEach es env)).any (·.1) = false := by intro _; rfl) :
    DE c Γ ω (.Call (.Name x p) (e :: es) [] pos) (t.S g) ω1 := d_call0 g Gx hk ha hs hp h0 h1 hg hdb he hpl

/-! ### what is walked -/
theorem i_seqL (h : DE c Γ ω it (Sq bb Rs xs) ω1) : DIl c Γ ω tg it xs Rs ω1 := i_seq h
theorem DI.lst {n : Nat} {W : Nat → β → Prop} (h : DI c Γ ω tg it n W Rb ω1) (zs : List β) (hl : zs.length = n) (hW : ∀ i y, i < n → W i y → zs[i]? = some y) : DIl c Γ ω tg it zs Rb ω1 := by
  subst hl
  intro X fx F σ B H hE hO Rk hR
  refine h X fx F σ B H hE hO Rk fun J B' H' e O hit => hR J B' H' e O fun B2 H2 e2 e3 => ?_
  obtain ⟨q1, q2, q3⟩ := hit B2 H2 e2 e3
  refine ⟨q1, q2, fun i hi x H3 yl => ?_⟩
  obtain ⟨z, hz, q⟩ := q3 i hi x H3 yl
  exact ⟨z, hW i z hi hz, q⟩
theorem i_rng1L (hj : okr 0 j) (ha : DE c Γ ω a (I j) ω1) (hm : c.M.mg "range" = none) (hg : Glo c.sc "range" := by exact rfl) (he : ∀ env, starEach [a] env = [(false, eval a env)] := by intro _; rfl) :
    DIl c Γ ω tg (.Call (.Name "range" p) [a] [] pos) (rng 0 j) I ω1 := by
  obtain ⟨_, _, h1, h2⟩ := hj
  refine (i_rng1 ha hm h2 h1 hg he).lst _ (by rw [len_rng]; simp) fun i y hi hy => ?_
  rw [at_rng (by omega), hy]; congr 1; omega
theorem i_rng2L (hj : okr k j) (ha : DE c Γ ω a (I k) ω1) (hb : DE c Γ ω1 b (I j) ω2) (hm : c.M.mg "range" = none) (hg : Glo c.sc "range" := by exact rfl) (he : ∀ env, starEach [a, b] env = [(false, eval a env), (false, eval b env)] := by intro _; rfl)
    (he2 : ∀ env, starEach [b] env = [(false, eval b env)] := by intro _; rfl) : DIl c Γ ω tg (.Call (.Name "range" p) [a, b] [] pos) (rng k j) I ω2 := by
  refine (i_rng2 ha hb hm hj hg he he2).lst _ len_rng fun i y hi hy => ?_
  rw [at_rng hi, hy]
theorem i_rngDL (hj : okr k j) (ha : DE c Γ ω a (I k) ω1) (hb : DE c Γ ω1 b (I j) ω2) (hd : DE c Γ ω2 d (I (-1)) ω2) (hm : c.M.mg "range" = none) (hg : Glo c.sc "range" := by exact rfl)
    (he : ∀ env, starEach [a, b, d] env = (false, eval a env) :: starEach [b, d] env := by intro _; rfl) (he2 : ∀ env, starEach [b, d] env = (false, eval b env) :: starEach [d] env := by intro _; rfl) (he3 : ∀ env, starEach [d] env = (false, eval d env) :: starEach [] env := by intro _; rfl)
    (hpl : ∀ env, (backTo pos (starEach [b, d] env)).any (·.1) = false := by intro _; rfl) : DIl c Γ ω tg (.Call (.Name "range" p) [a, b, d] [] pos) (rngD k j) I ω2 := by
  refine (i_rngD ha hb hd hm hj hg he he2 he3 hpl).lst _ (by simp [rngD]) fun i y hi hy => ?_
  rw [at_rngD hi, hy]
theorem i_enmL {elts : List Expr} {kq : Nat} {tpos : Pos} (h : DE c Γ ω a (Sq bb Rs xs) ω1) (hm : c.M.mg "enumerate" = none) (hg : Glo c.sc "enumerate" := by exact rfl) (he : ∀ env, starEach [a] env = [(false, eval a env)] := by intro _; rfl) :
    DIl c Γ ω (.Tuple elts kq tpos) (.Call (.Name "enumerate" p) [a] [] pos) (enm xs) (pr2 I Rs) ω1 :=
  (i_enum h hm hg he).lst _ len_enm fun i y hi hy => by rw [at_enm hy.2, ← hy.1]
theorem i_zipL {elts : List Expr} {kq : Nat} {tpos : Pos} (h : DE c Γ ω a (Sq b1 Rs xs) ω1) (h' : DE c Γ ω1 b (Sq b2 Rb ys) ω2) (hm : c.M.mg "zip" = none) (hg : Glo c.sc "zip" := by exact rfl) (he : ∀ env, starEach [a, b] env = (false, eval a env) :: starEach [b] env := by intro _; rfl) (he2 : ∀ env, starEach [b] env = (false, eval b env) :: starEach [] env := by intro _; rfl)
    (hpl : ∀ env, (backTo pos (starEach [b] env)).any (·.1) = false := by intro _; rfl) :
    DIl c Γ ω (.Tuple elts kq tpos) (.Call (.Name "zip" p) [a, b] [] pos) (List.zip xs ys) (pr2 Rs Rb) ω2 :=
  (i_zip h h' hm hg he he2 hpl).lst _ (by rw [List.length_zip]) fun i y hi hy => by
    rw [List.getElem?_zip_eq_some]
    exact hy

/-! ### comprehensions -/
theorem n_map [Cold c] {f : β → α} {ok : β → Prop} (own : List (Str × Nat)) (hk : okall ok ys) (hz : oks ys) (hi : DIl c Γ ω tg it ys Rb ω1) (ok' : BlkOk (Γ.map (·.1)) c.sc scope own) (hw : Wip Γ own Γw)
    (hb : ∀ y, ok y → ∃ Γb ns, DG ⟨c.M, relS scope c.sc, c.k, false, false⟩ tg ns (Rb y) Γw Γb ∧ (∀ x ∈ ns, x ∈ own.map (·.1)) ∧ DE ⟨c.M, relS scope c.sc, c.k, false, false⟩ Γb ω1 elt (R (f y)) ω1)
    (hs : ∀ env x, foldedSetIterable it env x = pure x := by intro _ _; rfl) : DNc c Γ ω (.ListComp elt [⟨tg, it, [], 0⟩] scope pos) (Cl R (ys.map f)) ω1 :=
  (n_lcM ok' hw hi (ys.map f) (by rw [List.length_map]) hz (fun i y z hy hz => by
    rw [List.getElem?_map, hy] at hz
    obtain rfl := Option.some.inj hz
    exact hb y (hk y (List.mem_of_getElem? hy))) hs).c
theorem n_flt [Cold c] {f : β → α} {pr : β → Bool} {ok ok2 : β → Prop} (own : List (Str × Nat)) (hk : okall (fun y => ok y ∧ (pr y = true → ok2 y)) ys) (hz : oks ys) (hi : DIl c Γ ω tg it ys Rb ω1) (ok' : BlkOk (Γ.map (·.1)) c.sc scope own) (hw : Wip Γ own Γw)
    (hb : ∀ y, ok y → (pr y = true → ok2 y) → ∃ Γb ns, DG ⟨c.M, relS scope c.sc, c.k, false, false⟩ tg ns (Rb y) Γw Γb ∧ (∀ x ∈ ns, x ∈ own.map (·.1)) ∧ DT ⟨c.M, relS scope c.sc, c.k, false, false⟩ Γb ω1 t (· = pr y) ω1 ∧ (pr y = true → DE ⟨c.M, relS scope c.sc, c.k, false, false⟩ Γb ω1 elt (R (f y)) ω1))
    (hs : ∀ env x, foldedSetIterable it env x = pure x := by intro _ _; rfl) : DNc c Γ ω (.ListComp elt [⟨tg, it, [t], 0⟩] scope pos) (Cl R ((ys.filter pr).map f)) ω1 :=
  (n_lcF (ys := ys) f pr ok' hw hi rfl (fun _ _ _ h => h) hz (fun i y _ hy => have := hk y (List.mem_of_getElem? hy); hb y this.1 this.2) hs).c
/-- x = [..] -/
theorem y_map [Cold c] {f : β → α} {ok : β → Prop} {kk : List α → ζ} {okk : List α → Prop} (own : List (Str × Nat)) (hk : okall ok ys) (hzs : oks ys) (hz : Go G B0 (lt (ys.map f) kk)) (hp : lt (ys.map f) okk) (hi : DIl c Γ ω tg it ys Rb ω1) (ok' : BlkOk (Γ.map (·.1)) c.sc scope own) (hw : Wip Γ own Γw)
    (hb : ∀ y, ok y → ∃ Γb ns, DG ⟨c.M, relS scope c.sc, c.k, false, false⟩ tg ns (Rb y) Γw Γb ∧ (∀ x ∈ ns, x ∈ own.map (·.1)) ∧ DE ⟨c.M, relS scope c.sc, c.k, false, false⟩ Γb ω1 elt (R (f y)) ω1) (hpn : Put Γ y none Γ0)
    (k : ∀ v, Go G B0 (kk v) → okk v → ∀ l, ∃ Γ1, Put Γ y (some (At l)) Γ1 ∧ DS c X B0 F D Γ1 ((l, Cl R v) :: ω1) rest)
    (hyl : c.sc.names.lookup y = some .local := by exact rfl) (hkf : c.sc.kind = .function := by exact rfl) (hln : (py.line == spos.line) = true := by rfl) (hpl : (py.line == pos.line) = true := by rfl) (ha : (scope.names.any fun (n, k) => n == y && (k == .local || k == .cell)) = false := by decide +kernel)
    (hs : ∀ env x, foldedSetIterable it env x = pure x := by intro _ _; rfl) : DS c X B0 F D Γ ω (.Assign [.Name y py] (.ListComp elt [⟨tg, it, [], 0⟩] scope pos) spos :: rest) :=
  ds_lcM (ys.map f) ok' hw hi (by rw [List.length_map]) hzs (fun i y z hy hz => by
    rw [List.getElem?_map, hy] at hz
    obtain rfl := Option.some.inj hz
    exact hb y (hk y (List.mem_of_getElem? hy))) hpn (fun l => let ⟨Γ1, h1, h2⟩ := k _ hz hp l; ⟨Γ1, h1, y_re (by
      have go : ∀ Γ : En, Fg Γ Γ := fun Γ => by
        induction Γ with
        | nil => exact .nil
        | cons e Γ ih => obtain ⟨x, o⟩ := e; exact .keep rfl ih
      exact go _) (List.perm_append_singleton _ _) h2⟩) hyl hkf hln hpl ha hs
theorem fg_refl : ∀ Γ : En, Fg Γ Γ
  | [] => .nil
  | (_, _) :: Γ => .keep rfl (fg_refl Γ)
theorem y_flt [Cold c] {f : β → α} {pr : β → Bool} {ok ok2 : β → Prop} {kk : List α → ζ} {okk : List α → Prop} (own : List (Str × Nat)) (hk : okall (fun y => ok y ∧ (pr y = true → ok2 y)) ys) (hzs : oks ys) (hz : Go G B0 (lt ((ys.filter pr).map f) kk)) (hp : lt ((ys.filter pr).map f) okk) (hi : DIl c Γ ω tg it ys Rb ω1) (ok' : BlkOk (Γ.map (·.1)) c.sc scope own) (hw : Wip Γ own Γw)
    (hb : ∀ y, ok y → (pr y = true → ok2 y) → ∃ Γb ns, DG ⟨c.M, relS scope c.sc, c.k, false, false⟩ tg ns (Rb y) Γw Γb ∧ (∀ x ∈ ns, x ∈ own.map (·.1)) ∧ DT ⟨c.M, relS scope c.sc, c.k, false, false⟩ Γb ω1 t (· = pr y) ω1 ∧ (pr y = true → DE ⟨c.M, relS scope c.sc, c.k, false, false⟩ Γb ω1 elt (R (f y)) ω1)) (hpn : Put Γ y none Γ0)
    (k : ∀ v, Go G B0 (kk v) → okk v → ∀ l, ∃ Γ1, Put Γ y (some (At l)) Γ1 ∧ DS c X B0 F D Γ1 ((l, Cl R v) :: ω1) rest)
    (hyl : c.sc.names.lookup y = some .local := by exact rfl) (hkf : c.sc.kind = .function := by exact rfl) (hln : (py.line == spos.line) = true := by rfl) (hpl : (py.line == pos.line) = true := by rfl) (ha : (scope.names.any fun (n, k) => n == y && (k == .local || k == .cell)) = false := by decide +kernel)
    (hs : ∀ env x, foldedSetIterable it env x = pure x := by intro _ _; rfl) : DS c X B0 F D Γ ω (.Assign [.Name y py] (.ListComp elt [⟨tg, it, [t], 0⟩] scope pos) spos :: rest) :=
  ds_lcF (ys := ys) f pr ok' hw hi rfl (fun _ _ _ h => h) hzs (fun i y _ hy => have := hk y (List.mem_of_getElem? hy); hb y this.1 this.2) hpn (fun l => let ⟨Γ1, h1, h2⟩ := k _ hz hp l; ⟨Γ1, h1, y_re (fg_refl _) (List.perm_append_singleton _ _) h2⟩) hyl hkf hln hpl ha hs

/-! ### statements that change cells -/
/-- x = e, where e changes cells -/
theorem y_asgS {d : α × τ} {kk : α × τ → ζ} {okk : α × τ → Prop} (cel : τ → Ws) (hz : Go G B0 (lt d kk)) (hp : lt d okk) (he : DE c Γ ω e (R d.1) (cel d.2)) (k : ∀ s, Go G B0 (kk s) → okk s → ∃ Γ1, Put Γ x (some (R s.1)) Γ1 ∧ DS c X B0 F D Γ1 (cel s.2) rest) (hl : Lo c x := by first | exact Or.inl rfl | exact Or.inr ⟨rfl, rfl⟩)
    (hs : ∀ env, swapsWithSole [.Name x px] e pos.line env = pure false := by intro _; rfl) (hw : ∀ env, swappedStores [.Name x px] e env = pure none := by intro _; rfl) : DS c X B0 F D Γ ω (.Assign [.Name x px] e pos :: rest) := by
  obtain ⟨Γ1, hput, k⟩ := k d hz hp
  exact ds_asg he hput k hl hs hw
/-- a new owned thing, where e changes cells -/
theorem y_ownS {d : α × τ} {kk : α × τ → ζ} {okk : α × τ → Prop} {Cv : α → Co} (cel : τ → Ws) (hz : Go G B0 (lt d kk)) (hp : lt d okk) (he : DNc c Γ ω e (Cv d.1) (cel d.2)) (k : ∀ s, Go G B0 (kk s) → okk s → ∀ l, ∃ Γ1, Put Γ x (some (At l)) Γ1 ∧ DS c X B0 F D Γ1 ((l, Cv s.1) :: cel s.2) rest) (hl : Lo c x := by first | exact Or.inl rfl | exact Or.inr ⟨rfl, rfl⟩)
    (hs : ∀ env, swapsWithSole [.Name x px] e pos.line env = pure false := by intro _; rfl) (hw : ∀ env, swappedStores [.Name x px] e env = pure none := by intro _; rfl) : DS c X B0 F D Γ ω (.Assign [.Name x px] e pos :: rest) := by
  have k := k d hz hp
  exact y_own (G := fun _ _ => True) (B0 := B0) (ζ := Unit) (Cv := Cv) (v := d.1) (kk := fun _ => ()) (okk := fun u => u = d.1) he ⟨trivial, fun _ _ _ _ _ => trivial⟩ rfl (fun y _ hy l => by subst hy; exact k l) hl hs hw
/-- if, where the test changes cells -/
theorem y_iteS {d : Bool × τ} {z1 z2 : Bool × τ → ζ} {q1 q2 : Bool × τ → Prop} (cel : τ → Ws) (hz : Go G B0 (lt d fun s => cond s.1 (z1 s) (z2 s))) (hp : lt d fun s => okI s.1 (q1 s) (q2 s)) (ht : DT c Γ ω t (· = d.1) (cel d.2)) (h1 : ∀ s, s.1 = true → Go G B0 (z1 s) → q1 s → DS c X B0 F { D with nx := tS X rest D } Γ (cel s.2) sts) (h2 : ∀ s, s.1 = false → Go G B0 (z2 s) → q2 s → DS c X B0 F { D with nx := tS X rest D } Γ (cel s.2) body) : DS c X B0 F D Γ ω (.If t sts body pos :: rest) := by
  refine ds_if ht (fun h => ?_) (fun h => ?_)
  · have h : d.1 = true := h.symm
    have hz' : Go G B0 (cond d.1 (z1 d) (z2 d)) := hz
    rw [h] at hz'
    exact h1 d h hz' (hp.1 h)
  · have h : d.1 = false := h.symm
    have hz' : Go G B0 (cond d.1 (z1 d) (z2 d)) := hz
    rw [h] at hz'
    exact h2 d h hz' (hp.2 h)
/-- if: the branches meet, the test changes cells -/
theorem y_ifLS {d : Bool × τ} {u1 u2 : Bool × τ → α} {q1 q2 : Bool × τ → Prop} (env : α → En) (cel : α → Ws) (cel0 : τ → Ws) (hz : Go G B0 (lt (lt d fun s => cond s.1 (u1 s) (u2 s)) kk)) (hp : (lt d fun s => okI s.1 (q1 s) (q2 s)) ∧ lt (lt d fun s => cond s.1 (u1 s) (u2 s)) okk) (ht : DT c Γ ω t (· = d.1) (cel0 d.2))
    (h1 : ∀ s, s.1 = true → q1 s → Go (fun B s => DS c X B F { D with nx := tS X rest D } (env s) (cel s) []) B0 (u1 s) → DS c X B0 F { D with nx := tS X rest D } Γ (cel0 s.2) sts)
    (h2 : ∀ s, s.1 = false → q2 s → Go (fun B s => DS c X B F { D with nx := tS X rest D } (env s) (cel s) []) B0 (u2 s) → DS c X B0 F { D with nx := tS X rest D } Γ (cel0 s.2) body)
    (hr : ∀ y, Go G B0 (kk y) → okk y → DS c X B0 F D (env y) (cel y) rest) : DS c X B0 F D Γ ω (.If t sts body pos :: rest) := by
  have key : Go (fun B s => DS c X B F { D with nx := tS X rest D } (env s) (cel s) []) B0 (cond d.1 (u1 d) (u2 d)) := ⟨ds_next (hr _ hz hp.2), fun _ _ _ e h => h.mono e⟩
  refine ds_if ht (fun h => ?_) (fun h => ?_)
  · have h : d.1 = true := h.symm
    rw [h] at key
    exact h1 d h (hp.1.1 h) key
  · have h : d.1 = false := h.symm
    rw [h] at key
    exact h2 d h (hp.1.2 h) key
/-- a statement that changes cells alone: the cells told by one value -/
theorem y_st {st : Stmt} {d : τ} {kk : τ → ζ} {okk : τ → Prop} (cel : τ → Ws) (hz : Go G B0 (lt d kk)) (hp : lt d okk) (hst : DS c X B0 F D Γ (cel d) rest → DS c X B0 F D Γ ω (st :: rest)) (k : ∀ s, Go G B0 (kk s) → okk s → DS c X B0 F D Γ (cel s) rest) : DS c X B0 F D Γ ω (st :: rest) := hst (k d hz hp)
/-- return, with what the lent cells hold -/
theorem y_retS (he : DE c Γ ω e S ω1) (hR : Rt B0 F D.rt S ωo) (hω : ω1.Perm (ωo ++ ω2)) : DS c X B0 F D Γ ω (.Return (some e) pos :: rest) :=
  ds_ret (ω1 := ω2) hR (fun X fx F σ B H hE hO Q hQ => he X fx F σ B H hE hO Q fun v B' H' e1 O1 => hQ v B' H' e1 (O1.perm hω)) Sle.refl
end
end ZZ

set_option maxHeartbeats 2000000
/-! Y3: while, statements over owned lists, texts, membership. -/
namespace ZZ
open PySem PySem.Spec PyProof.Rows L2
open Evl (Ex)
section
variable {c : Cc} {X : Cx} {B0 F : Hp} {D : Ends} {Γ Γ0 Γ1 Γ2 Γw : En} {ω ω1 ω2 ω3 ωo : Ws} {S T : Sh} {e o i t tg it a b d elt : Expr} {es : List Expr} {rest sts body : List Stmt} {x y : Str} {pos p p2 px py spos : Pos} {α β τ ρ ζ δ : Type} {R : α → Sh} {Rb : β → Sh} {Rs : α → Sh} {v w : α} {xs : List α} {ys : List β} {G : Hp → ζ → Prop} {l : Addr} {C : Co} {bb b1 b2 : Bool} {k j : Int} {scope : Scope} {own : List (Str × Nat)}

/-! ### while -/
theorem y_while [Cold c] {n : Nat} {cnd : τ → Bool} {f : τ → Ctl τ ρ} {okc ok okk : τ → Prop} {s0 : τ} {kr : ρ → ζ} {kk : τ → ζ} (env : τ → En) (cel : τ → Ws) (hf : Fg Γ (env s0)) (hω : ω.Perm (cel s0)) (hN : ∀ s, (env s).map (·.1) = Γ.map (·.1)) (hz : Go G B0 (thn (whC cnd f n s0) kr kk)) (hp : okW cnd f okc ok okk n s0)
    (ht : ∀ s, okc s → DT c (env s) (cel s) t (· = cnd s) (cel s))
    (hb : ∀ Db B1, Ex B0 B1 → Db.rt = D.rt → ∀ s, cnd s = true → ok s → Go (fun B z => match z with
        | .nx s' => DS c X B F Db (env s') (cel s') [] ∧ ∀ pc rc, DS c X B F Db (env s') (cel s') (.Continue pc :: rc)
        | .bk s' => ∀ pc rc, DS c X B F Db (env s') (cel s') (.Break pc :: rc)
        | .rt r => Go G B (kr r)) B1 (f s) → DS c X B1 F Db (env s) (cel s) body)
    (hd : ∀ s, Go G B0 (kk s) → okk s → DS c X B0 F D (env s) (cel s) rest) : DS c X B0 F D Γ ω (.While t body [] pos :: rest) := by
  intro fx σ B H hB hE hO
  refine tS.cons (ps_while fx.pass pt_w pss_w) ?_
  refine ⟨fun m σ' H' => ∃ s B', Ex B0 B' ∧ EnvOk (env s) σ' B' ∧ Own F (cel s) B' H' ∧ whC cnd f n s0 = whC cnd f m s ∧ okW cnd f okc ok okk m s, ⟨n, s0, B, hB, hf.env hE, hO.perm hω, rfl, hp⟩, ?_⟩
  rintro m σ1 H1 ⟨s, B1, e1, E1, O1, he, hk⟩
  cases m with
  | zero => exact hk.elim
  | succ m =>
    have fx1 : Fits c ((env s).map (·.1)) X := fx.re (hN s)
    refine ht s hk.1 X fx1 F σ1 B1 H1 E1 O1 _ fun b B2 H2 e2 O2 hb2 => ?_
    have hb2 : b = cnd s := hb2
    have hk2 := hk.2
    rw [whC] at he
    cases hc : cnd s with
    | false =>
      rw [hc] at hb2 hk2 he
      subst hb2
      rw [if_neg Bool.false_ne_true]
      rw [he] at hz
      exact hd s hz hk2 fx1 σ1 B2 H2 (e1.trans e2) (E1.mono e2) O2
    | true =>
      rw [hc] at hb2 hk2 he
      subst hb2
      rw [if_pos rfl]
      refine ⟨fun σ' H' => ∃ s' B', Ex B0 B' ∧ EnvOk (env s') σ' B' ∧ Own F (cel s') B' H' ∧ whC cnd f n s0 = whC cnd f m s' ∧ okW cnd f okc ok okk m s', fun σ' H' ⟨s', B', q1, q2, q3, q4, q5⟩ => ⟨m, Nat.lt_succ_self m, s', B', q1, q2, q3, q4, q5⟩, ?_⟩
      refine hb _ B2 (e1.trans e2) ?_ s hc hk2.1 ⟨?_, fun B1 B2 z e h => ?_⟩ fx1 σ1 B2 H2 (Ex.refl B2) (E1.mono e2) O2
      · rfl
      · have hk3 := hk2.2
        have he : whC cnd f n s0 = (match f s with | .nx s' => whC cnd f m s' | .bk s' => .nx s' | .rt r => .rt r) := he
        cases hf : f s with
        | nx s' =>
          rw [hf] at hk3 he
          have go : ∀ σ' B' H', Ex B2 B' → EnvOk (env s') σ' B' → Own F (cel s') B' H' → ∃ s' B', Ex B0 B' ∧ EnvOk (env s') σ' B' ∧ Own F (cel s') B' H' ∧ whC cnd f n s0 = whC cnd f m s' ∧ okW cnd f okc ok okk m s' := fun σ' B' H' h1 h2 h3 => ⟨s', B', (e1.trans e2).trans h1, h2, h3, he, hk3⟩
          exact ⟨ds_nil go, fun pc rc => ds_cont go⟩
        | bk s' =>
          rw [hf] at hk3 he
          refine fun pc rc => ds_brk fun σ' B' H' h1 h2 h3 => ?_
          rw [he] at hz
          exact hd s' hz hk3 (fx.re (hN s')) σ' B' H' ((e1.trans e2).trans h1) h2 h3
        | rt r =>
          rw [hf] at he
          rw [he] at hz
          exact (show Go G B0 (kr r) from hz).mono (e1.trans e2)
      · cases z with
        | nx s' => exact ⟨h.1.mono e, fun pc rc => (h.2 pc rc).mono e⟩
        | bk s' => exact fun pc rc => (h pc rc).mono e
        | rt r => exact Go.mono h e

/-! ### statements over owned lists -/
theorem y_app {apos cpos : Pos} {v : α} {kk : List α → ζ} {okk : List α → Prop} (hl : oks xs) (hz : Go G B0 (lt (xs ++ [v]) kk)) (hp : lt (xs ++ [v]) okk) (ho : DE c Γ ω o (At l) ω) (hm : Hold ω l (Cl R xs)) (he : DE c Γ ω e (R v) ω1) (k : ∀ s, Go G B0 (kk s) → okk s → ∃ ω2, Swp ω1 l (Cl R xs) (Cl R s) ω2 ∧ DS c X B0 F D Γ ω2 rest)
    (hbase : ∀ env, attributeBase o "append" env (eval o env) = eval o env := by intro _; rfl)
    (hfew : ∀ env, ((backTo cpos (starEach [e] env)).all (fun x => !x.1) && (backToKw cpos (keywordEach [] env)).all (fun x => x.1.isSome) && decide ([e].length + ([] : List Keyword).length + (if ([] : List Keyword).isEmpty then 0 else 1) < 30)) = true := by intro _; rfl)
    (hline : (apos.endLine == cpos.line) = true := by rfl) (hst : ∀ env, starEach [e] env = (false, eval e env) :: starEach [] env := by intro _; rfl) (hsw : ∀ env, swapsWith (.Call (.Attribute o "append" apos) [e] [] cpos) none pos.line env = pure false := by intro _; rfl) :
    DS c X B0 F D Γ ω (.Expr (.Call (.Attribute o "append" apos) [e] [] cpos) pos :: rest) := by
  obtain ⟨ω2, hs, k⟩ := k _ hz hp
  exact ds_app ho he hm hs hl k hbase hfew hline hst hsw
/-- .. where e changes cells -/
theorem y_appS {apos cpos : Pos} {d : α × τ} {kk : List α × τ → ζ} {okk : List α × τ → Prop} (cel : τ → Ws) (hl : oks xs) (hz : Go G B0 (lt (xs ++ [d.1], d.2) kk)) (hp : lt (xs ++ [d.1], d.2) okk) (ho : DE c Γ ω o (At l) ω) (hm : Hold ω l (Cl R xs)) (he : DE c Γ ω e (R d.1) (cel d.2)) (k : ∀ s, Go G B0 (kk s) → okk s → ∃ ω2, Swp (cel s.2) l (Cl R xs) (Cl R s.1) ω2 ∧ DS c X B0 F D Γ ω2 rest)
    (hbase : ∀ env, attributeBase o "append" env (eval o env) = eval o env := by intro _; rfl)
    (hfew : ∀ env, ((backTo cpos (starEach [e] env)).all (fun x => !x.1) && (backToKw cpos (keywordEach [] env)).all (fun x => x.1.isSome) && decide ([e].length + ([] : List Keyword).length + (if ([] : List Keyword).isEmpty then 0 else 1) < 30)) = true := by intro _; rfl)
    (hline : (apos.endLine == cpos.line) = true := by rfl) (hst : ∀ env, starEach [e] env = (false, eval e env) :: starEach [] env := by intro _; rfl) (hsw : ∀ env, swapsWith (.Call (.Attribute o "append" apos) [e] [] cpos) none pos.line env = pure false := by intro _; rfl) :
    DS c X B0 F D Γ ω (.Expr (.Call (.Attribute o "append" apos) [e] [] cpos) pos :: rest) := by
  obtain ⟨ω2, hs, k⟩ := k _ hz hp
  exact ds_app ho he hm hs hl k hbase hfew hline hst hsw
theorem y_ext {apos cpos : Pos} {vs : List α} {kk : List α → ζ} {okk : List α → Prop} (hl : xs.length + vs.length ≤ 16777216) (hz : Go G B0 (lt (xs ++ vs) kk)) (hp : lt (xs ++ vs) okk) (ho : DE c Γ ω o (At l) ω) (hm : Hold ω l (Cl R xs)) (he : DE c Γ ω e (L R vs) ω1) (k : ∀ s, Go G B0 (kk s) → okk s → ∃ ω2, Swp ω1 l (Cl R xs) (Cl R s) ω2 ∧ DS c X B0 F D Γ ω2 rest)
    (hbase : ∀ env, attributeBase o "extend" env (eval o env) = eval o env := by intro _; rfl)
    (hfew : ∀ env, ((backTo cpos (starEach [e] env)).all (fun x => !x.1) && (backToKw cpos (keywordEach [] env)).all (fun x => x.1.isSome) && decide ([e].length + ([] : List Keyword).length + (if ([] : List Keyword).isEmpty then 0 else 1) < 30)) = true := by intro _; rfl)
    (hline : (apos.endLine == cpos.line) = true := by rfl) (hst : ∀ env, starEach [e] env = (false, eval e env) :: starEach [] env := by intro _; rfl) (hsw : ∀ env, swapsWith (.Call (.Attribute o "extend" apos) [e] [] cpos) none pos.line env = pure false := by intro _; rfl) :
    DS c X B0 F D Γ ω (.Expr (.Call (.Attribute o "extend" apos) [e] [] cpos) pos :: rest) := by
  obtain ⟨ω2, hs, k⟩ := k _ hz hp
  intro fx σ B H hB hE hO
  refine tS.cons (ps_expr (pe_bm PySem.F.plainAttrs_list PySem.F.slot_list_extend PySem.F.type_list_extend mt_extend pe_w (pa_cons pe_w pa_nil (hst _)) (hbase _) (hfew _) hline (hst _) rfl) (hsw _)) ?_
  refine ho X fx F σ B H hE hO _ fun v B1 H1 e1 O1 p1 => ?_
  have p1 : v = .ref l := p1
  subst p1
  refine ⟨?_, ?_⟩
  · obtain ⟨_, _, o', h2, us, rfl, h3⟩ := O1.ow _ _ hm.mem
    exact .inl ⟨rfl, us, SqL.of h2⟩
  · refine he X fx F σ B1 H1 (hE.mono e1) O1 _ fun u B2 H2 e2 O2 p2 => ?_
    obtain ⟨_, _, o', h2, us, rfl, h3⟩ := O2.ow _ _ hs.mem
    obtain ⟨a', us2, rfl, g1, g2⟩ := sq_get p2 O2.ex
    refine ⟨l, a', us, us2, rfl, rfl, h2, g1, by rw [h3.len, g2.len]; exact hl, ?_⟩
    exact k fx σ B2 _ ((hB.trans e1).trans e2) (hE.mono (e1.trans e2)) (O2.swp hs ⟨_, rfl, h3.append g2⟩)
theorem y_rev {apos cpos : Pos} {kk : List α → ζ} {okk : List α → Prop} (hz : Go G B0 (lt xs.reverse kk)) (hp : lt xs.reverse okk) (ho : DE c Γ ω o (At l) ω) (hm : Hold ω l (Cl R xs)) (k : ∀ s, Go G B0 (kk s) → okk s → ∃ ω2, Swp ω l (Cl R xs) (Cl R s) ω2 ∧ DS c X B0 F D Γ ω2 rest)
    (hb : ∀ env, attributeBase o "reverse" env (eval o env) = eval o env := by intro _; rfl) (hln : (apos.endLine == cpos.line) = true := by rfl)
    (hsw : ∀ env, swapsWith (.Call (.Attribute o "reverse" apos) [] [] cpos) none pos.line env = pure false := by intro _; rfl) : DS c X B0 F D Γ ω (.Expr (.Call (.Attribute o "reverse" apos) [] [] cpos) pos :: rest) := by
  obtain ⟨ω2, hs, k⟩ := k _ hz hp
  exact ds_rev ho hs k hb hln hsw
/-- xs[i] = e -/
theorem y_set {v : α} {kk : List α → ζ} {okk : List α → Prop} {k0 : Int} (hx : okx xs k0) (hz : Go G B0 (lt (stx xs k0 v) kk)) (hp : lt (stx xs k0 v) okk) (he : DE c Γ ω e (R v) ω1) (ho : DE c Γ ω1 o (At l) ω2) (hi : DE c Γ ω2 i (I k0) ω3) (k : ∀ s, Go G B0 (kk s) → okk s → ∃ ωo, Swp ω3 l (Cl R xs) (Cl R s) ωo ∧ DS c X B0 F D Γ ωo rest)
    (hss : ∀ env, swapsWithSole [.Subscript o i p] e pos.line env = pure false := by intro _; rfl) (hw : ∀ env, swappedStores [.Subscript o i p] e env = pure none := by intro _; rfl)
    (ha : ∀ env v, assign (.Subscript o i p) env v = (do
      let ov ← holding [v] (eval o env)
      let iv ← holding [v, ov] (eval i env)
      standAt p
      holding [v, ov, iv] (setItem ov iv v)
      release [v, ov, iv] []) := by intro _ _; rfl) : DS c X B0 F D Γ ω (.Assign [.Subscript o i p] e pos :: rest) := by
  obtain ⟨ωo, hs, k⟩ := k _ hz hp
  exact ds_seti he ho hi (ixv_of hx) hs k hss hw ha
theorem get_list : PGet X (rIxL X.K) := by
  intro pins s σ H o i ov iv Q I ro ri h
  obtain ⟨p, xs, k, z, rfl, rfl, hq, he, q⟩ := h
  cases ro
  obtain ⟨t, rfl⟩ := ri
  obtain ⟨its, r, pl, hz⟩ := I.list hq
  obtain ⟨j, h1, h2, h3, h4, h5⟩ := atI_get he
  obtain ⟨w, ew, rw'⟩ := r.get h2
  have hl := r.length
  have hn := line63
  have fin : EP X pins σ Q w s := ⟨z, H, I, rw', q⟩
  by_cases h0 : 0 ≤ k
  · have hj : k.toNat = j := by
      rw [seqIndex_of h0 h5] at h1
      exact Option.some.inj h1
    exact wpAny_getItem_list pl.isList h0 (by omega) (by rw [hj]; simpa using ew) fin
  · have hj : (k + (its.toArray.size : Int)).toNat = j := by
      rw [seqIndex_neg (by omega) h4] at h1
      rw [List.size_toArray, ← hl]
      exact Option.some.inj h1
    exact wpAny_getItem_list_neg pl.isList (by omega) (by rw [List.size_toArray] <;> omega) (by omega) (by rw [hj]; simpa using ew) fin
/-- xs[i] += e, of ints -/
theorem y_augx {op : Operator} {f : Int → Int → Int} {xs : List Int} {j k0 : Int} {kk : List Int → ζ} {okk : List Int → Prop} (ho : ∀ X, PIp X op (ipI f)) (hx : okx xs k0) (hz : Go G B0 (lt (stx xs k0 (f (gt xs k0) j)) kk)) (hp : lt (stx xs k0 (f (gt xs k0) j)) okk) (hm : Hold ω l (Cl I xs)) (hoo : DE c Γ ω o (At l) ω) (hi : DE c Γ ω i (I k0) ω) (he : DE c Γ ω e (I j) ω) (k : ∀ s, Go G B0 (kk s) → okk s → ∃ ωo, Swp ω l (Cl I xs) (Cl I s) ωo ∧ DS c X B0 F D Γ ωo rest)
    (ha : ∀ ov iv new, augStore i ov iv new = (do holding [new, ov, iv] (setItem ov iv new); release [new, ov, iv] []; pure .next) := by intros; rfl) : DS c X B0 F D Γ ω (.AugAssign (.Subscript o i p) op e pos :: rest) := by
  obtain ⟨ωo, hs, k⟩ := k _ hz hp
  intro fx σ B H hB hE hO
  refine tS.cons (ps_augS pe_w pe_w get_list pe_w (ho X) set_list ha) ?_
  refine hoo X fx F σ B H hE hO _ fun v1 B1 H1 e1 O1 p1 => ?_
  refine hi X fx F σ B1 H1 (hE.mono e1) O1 _ fun v2 B2 H2 e2 O2 p2 => ?_
  obtain ⟨_, _, o', h2, us, rfl, h3⟩ := O2.ow _ _ hm.mem
  obtain ⟨z, q1, q2⟩ := h3.atI (gt_at hx)
  refine ⟨l, us, k0, z, p1, p2, SqL.of h2, q1, ?_⟩
  refine he X fx F σ B2 H2 (hE.mono (e1.trans e2)) O2 _ fun v3 B3 H3 e3 O3 p3 => ⟨_, _, q2, p3, ?_⟩
  obtain ⟨_, _, o', h2, us, rfl, h3⟩ := O3.ow _ _ hm.mem
  refine ⟨l, us, k0, _, p1, p2, h2, by rw [h3.len]; exact ixv_of hx, ?_⟩
  exact k fx σ B3 _ (((hB.trans e1).trans e2).trans e3) (hE.mono ((e1.trans e2).trans e3)) (O3.swp hs ⟨_, rfl, All2.set (R := fun v x => (I x).p B3 v) (show _ = _ from rfl) _ h3⟩)
/-- reading an owned list that is not changed by what reads it: for answers that are no things -/
theorem d_lend {Γ1 : En} {vv : V} (hu : Upg Γ x (At l) (L Rs xs) Γ1) (ht : Tak ω l (Cl Rs xs) ω1) (hfl : ∀ e ∈ ω1, Flat e.2) (hd : DE c Γ1 ω1 e (Sc vv) ω1) : DE c Γ ω e (Sc vv) ω := by
  intro X fx F σ B H hE hO Q hQ
  obtain ⟨o, h1, h3, O2, e2⟩ := hO.freeze ht
  obtain ⟨hb, hf, _⟩ := hO.ow _ _ ht.mem
  have h3' := h3
  obtain ⟨vs, rfl, h4⟩ := h3
  refine hd X (fx.re hu.names) F σ (upd B l (.lst vs)) H (hu.env (fun v hv => ?_) (hE.mono e2)) O2 Q fun b B2 H2 e3 O3 hr => ?_
  · exact ⟨l, vs, hv, upd_same, h4.mp fun _ s q => (Rs s).mono e2 q⟩
  · have hl : B2 l = some (.lst vs) := e3 _ _ upd_same
    have eB : Ex B (fun a => if a = l then none else B2 a) := fun a o' h => by
      have hne : a ≠ l := fun z => by rw [z, hb] at h; cases h
      show (if a = l then none else B2 a) = some o'
      rw [if_neg hne]
      exact e3 _ _ (by rw [upd_ne hne]; exact h)
    refine hQ b _ H2 eB ⟨hO.nd, fun m D hm => ?_, fun a ha => ?_⟩ hr
    · rcases ht.split hm with z | z
      · cases z
        exact ⟨if_pos rfl, hf, .lst vs, O3.ex _ _ hl, (Cl Rs xs).mono eB h3'⟩
      · obtain ⟨q1, q2, o', q3, q4⟩ := O3.ow m D z
        have hne : m ≠ l := fun y => by rw [y, hl] at q1; cases q1
        exact ⟨by show (if m = l then none else B2 m) = none; rw [if_neg hne]; exact q1, q2, o', q3, hfl _ z _ _ _ q4⟩
    · obtain ⟨z1, z2⟩ := ht.has ha
      obtain ⟨q1, q2⟩ := O3.fr a z2
      show ((if a = l then none else B2 a) = none ∨ F a = none) ∧ H2 a = (if a = l then none else B2 a).or (F a)
      rw [if_neg z1]
      exact ⟨q1, q2⟩

/-! ### texts -/
def sgt (s : Str) (k : Int) : Str := ⟨#[s.cps.getD k.toNat 0]⟩
theorem d_sat {s : Str} (hk : 0 ≤ k ∧ k < s.length ∧ k < 2 ^ 63) (ha : DE c Γ ω a (Tx s) ω1) (hb : DE c Γ ω1 b (I k) ω2) (hs : PlainIxT b := by exact fun _ _ => rfl) : DE c Γ ω (.Subscript a b pos) (Tx (sgt s k)) ω2 := by
  intro X fx F σ B H hE hO Q hQ
  refine tW.of (pe_item_str pe_w pe_w hs) ?_
  refine ha X fx F σ B H hE hO _ fun v B1 H1 e1 O1 p1 => ?_
  refine hb X fx F σ B1 H1 (hE.mono e1) O1 _ fun u B2 H2 e2 O2 p2 => ?_
  have h : k.toNat < s.cps.size := by have : s.length = s.cps.size := rfl; omega
  refine ⟨s, k, s.cps.getD k.toNat 0, p1, p2, hk.1, hk.2.2, hk.2.1, ?_, hQ _ B2 H2 (e1.trans e2) O2 rfl⟩
  rw [Array.getD_eq_getD_getElem?, Array.getElem?_eq_getElem h]; rfl
theorem d_addS {s u : Str} (hl : s.length + u.length ≤ 16777216) (ha : DE c Γ ω a (Tx s) ω1) (hb : DE c Γ ω1 b (Tx u) ω2) : DE c Γ ω (.BinOp a .Add b pos) (Tx (s ++ u)) ω2 :=
  d_bin (fun _ => op_add_str) ha hb fun F ω B H v w h1 h2 O Q q => ⟨s, u, h1, h2, hl, q _ B H (Ex.refl B) O rfl⟩
theorem d_slS {lo hi : Option Expr} {s : Str} {i j : Option Int} (hl : s.length ≤ 16777216) (ha : DE c Γ ω a (Tx s) ω1) (hlo : DO c Γ ω1 lo i ω2) (hhi : DO c Γ ω2 hi j ω3) : DE c Γ ω (.Subscript a (.Slice lo hi none p2) pos) (Tx (cutS s i j)) ω3 := by
  intro X fx F σ B H hE hO Q hQ
  refine tW.of (pe_slice sl_str pe_w po_w po_w) ?_
  refine ha X fx F σ B H hE hO _ fun v B1 H1 e1 O1 p1 => ?_
  refine hlo.run fx (hE.mono e1) O1 fun B2 H2 e2 O2 => ?_
  refine hhi.run fx (hE.mono (e1.trans e2)) O2 fun B3 H3 e3 O3 => ?_
  exact ⟨s, p1, hl, hQ _ B3 H3 ((e1.trans e2).trans e3) O3 rfl⟩
theorem d_strS {s : Str} (ha : DE c Γ ω a (Tx s) ω1) (hm : c.M.mg "str" = none) (hg : Glo c.sc "str" := by exact rfl) (he : ∀ env, starEach [a] env = (false, eval a env) :: starEach [] env := by intro _; rfl) : DE c Γ ω (.Call (.Name "str" p) [a] [] pos) (Tx s) ω1 :=
  d_callTy (fun _ _ => SkE.call_str_str) hg hm PyProof.Rows.boot_str (a_cons ha a_nil he) (rc1 fun F ω B H v hv O Q q => ⟨s, by rw [show v = V.str s from hv], q _ B H (Ex.refl B) O rfl⟩) (he := he)
theorem d_ltS {s u : Str} (ha : DE c Γ ω a (Tx s) ω1) (hb : DE c Γ ω1 b (Tx u) ω2) : DE c Γ ω (.Compare a [.Lt] [b] pos) (Bo (decide (s.cps.toList < u.cps.toList))) ω2 :=
  d_cmp (fun _ _ => op_lt_str) ha hb (fun F ω B H v w h1 h2 O Q q => ⟨s, u, h1, h2, q _ B H (Ex.refl B) O rfl⟩) (nomark _)
theorem d_neS {s u : Str} (ha : DE c Γ ω a (Tx s) ω1) (hb : DE c Γ ω1 b (Tx u) ω2) : DE c Γ ω (.Compare a [.NotEq] [b] pos) (Bo (!decide (s = u))) ω2 := d_cmp (fun _ _ => op_ne) ha hb (by rw [← vstr]; exact rr_ne rfl) (nomark _)

/-! ### in, not in -/
theorem ev_int {i j : Int} : eqV (.int i) (.int j) = decide (i = j) := by
  show (i == j) = _
  by_cases h : i = j
  · rw [h]; simp
  · rw [decide_eq_false h]; exact beq_eq_false_iff_ne.mpr h
theorem ev_str {i j : Str} : eqV (.str i) (.str j) = decide (i = j) := by
  show (i == j) = _
  by_cases h : i = j
  · rw [h]; simp
  · rw [decide_eq_false h]; exact beq_eq_false_iff_ne.mpr h
/-- numbers, texts: compared by their values -/
class FlatR {α : Type} [DecidableEq α] (R : α → Sh) : Prop where
  val : ∃ f : α → V, (∀ x, R x = Sc (f x)) ∧ (∀ x, flatV (f x) = true) ∧ ∀ x y, eqV (f x) (f y) = decide (x = y)
instance : FlatR (fun i : Int => I i) := ⟨V.int, fun _ => rfl, fun _ => rfl, fun _ _ => ev_int⟩
instance : FlatR I := ⟨V.int, fun _ => rfl, fun _ => rfl, fun _ _ => ev_int⟩
instance : FlatR Tx := ⟨V.str, fun _ => rfl, fun _ => rfl, fun _ _ => ev_str⟩
theorem inV_dec [DecidableEq α] {f : α → V} (hf : ∀ x y, eqV (f x) (f y) = decide (x = y)) {v : α} {xs : List α} : inV (f v) (xs.map f) = decide (v ∈ xs) := by
  unfold inV
  rw [List.any_map]
  apply Bool.eq_iff_iff.mpr
  rw [List.any_eq_true, decide_eq_true_eq]
  constructor
  · rintro ⟨x, hx, h⟩
    have h : eqV (f x) (f v) = true := h
    rw [hf] at h
    exact of_decide_eq_true h ▸ hx
  · intro h
    exact ⟨v, h, by show eqV (f v) (f v) = true; rw [hf]; simp⟩
theorem all_val {f : α → V} (hR : ∀ x, R x = Sc (f x)) {B : Hp} : ∀ {vs : List V} {xs : List α}, All2 (fun v x => (R x).p B v) vs xs → vs = xs.map f
  | _, _, .nil => rfl
  | _, _, .cons (b := x) h t => by
    rw [hR] at h
    have h : _ = f x := h
    rw [h, all_val hR t]; rfl
theorem rr_in [DecidableEq α] [hF : FlatR R] {K : PySem.W.Frag} (neg : Bool) : RR (rIn K neg) (R v) (Sq bb R xs) (Bo (if neg then !decide (v ∈ xs) else decide (v ∈ xs))) := fun F ω B H v1 v2 p1 p2 O Q q => by
  obtain ⟨f, h1, h2, h3⟩ := hF.val
  obtain ⟨a', vs, rfl, g1, g2⟩ := sq_get p2 O.ex
  have e := all_val h1 g2
  subst e
  rw [h1] at p1
  have p1 : v1 = f v := p1
  subst p1
  refine ⟨a', xs.map f, rfl, ?_, h2 _, by rw [List.all_map]; exact List.all_eq_true.mpr fun x _ => h2 x, q _ B H (Ex.refl B) O (by show V.bl _ = V.bl _; rw [inV_dec h3])⟩
  cases bb with
  | true => exact .inl (SqL.of g1)
  | false => exact .inr (SqT.of g1)
theorem d_in [DecidableEq α] [hF : FlatR R] (ha : DE c Γ ω a (R v) ω1) (hb : DE c Γ ω1 b (Sq bb R xs) ω2) (hmk : behindInMarks .In b = false := by rfl) : DE c Γ ω (.Compare a [.In] [b] pos) (Bo (decide (v ∈ xs))) ω2 :=
  d_cmp (r := rIn c.M.K false) (fun X fx => by rw [← fx.K]; exact op_in_seq) ha hb (rr_in false) hmk
theorem d_notin [DecidableEq α] [hF : FlatR R] (ha : DE c Γ ω a (R v) ω1) (hb : DE c Γ ω1 b (Sq bb R xs) ω2) (hmk : behindInMarks .NotIn b = false := by rfl) : DE c Γ ω (.Compare a [.NotIn] [b] pos) (Bo (!decide (v ∈ xs))) ω2 :=
  d_cmp (r := rIn c.M.K true) (fun X fx => by rw [← fx.K]; exact op_notIn_seq) ha hb (rr_in true) hmk
theorem t_in [DecidableEq α] [hF : FlatR R] (ha : DE c Γ ω a (R v) ω1) (hb : DE c Γ ω1 b (Sq bb R xs) ω2) (hmk : behindInMarks .In b = false := by rfl) : DT c Γ ω (.Compare a [.In] [b] pos) (· = decide (v ∈ xs)) ω2 :=
  t_cmp (r := rIn c.M.K false) (fun X fx => by rw [← fx.K]; exact op_in_seq) ha hb ((rr_in false).wide Sle.tb) hmk
theorem t_notin [DecidableEq α] [hF : FlatR R] (ha : DE c Γ ω a (R v) ω1) (hb : DE c Γ ω1 b (Sq bb R xs) ω2) (hmk : behindInMarks .NotIn b = false := by rfl) : DT c Γ ω (.Compare a [.NotIn] [b] pos) (· = !decide (v ∈ xs)) ω2 :=
  t_cmp (r := rIn c.M.K true) (fun X fx => by rw [← fx.K]; exact op_notIn_seq) ha hb ((rr_in true).wide Sle.tb) hmk
theorem in_own [DecidableEq α] [hF : FlatR R] {F : Hp} {B H : Hp} {v1 v2 : V} (neg : Bool) {K : PySem.W.Frag} (p1 : (R v).p B v1) (p2 : v2 = .ref l) (hm : Hold ω l (Cl R xs)) (O : Own F ω B H) {Q : VK} (q : Q (.bl (if neg then !decide (v ∈ xs) else decide (v ∈ xs))) H) : rIn K neg v1 v2 H Q := by
  obtain ⟨f, h1, h2, h3⟩ := hF.val
  obtain ⟨_, _, o', g1, us, rfl, g2⟩ := O.ow _ _ hm.mem
  have e := all_val h1 g2
  subst e
  rw [h1] at p1
  have p1 : v1 = f v := p1
  subst p1 p2
  exact ⟨l, xs.map f, rfl, .inl (SqL.of g1), h2 _, by rw [List.all_map]; exact List.all_eq_true.mpr fun x _ => h2 x, by rw [inV_dec h3]; exact q⟩
theorem d_inO [DecidableEq α] [hF : FlatR R] (ha : DE c Γ ω a (R v) ω1) (hb : DE c Γ ω1 b (At l) ω2) (hm : Hold ω2 l (Cl R xs)) (hmk : behindInMarks .In b = false := by rfl) : DE c Γ ω (.Compare a [.In] [b] pos) (Bo (decide (v ∈ xs))) ω2 := by
  intro X fx F σ B H hE hO Q hQ
  refine tW.of (pe_cmpR op_in_seq pe_w pe_w hmk) ?_
  refine ha X fx F σ B H hE hO _ fun v1 B1 H1 e1 O1 p1 => ?_
  refine hb X fx F σ B1 H1 (hE.mono e1) O1 _ fun v2 B2 H2 e2 O2 p2 => ?_
  exact in_own false ((R v).mono e2 p1) p2 hm O2 (hQ _ B2 H2 (e1.trans e2) O2 rfl)
theorem d_notinO [DecidableEq α] [hF : FlatR R] (ha : DE c Γ ω a (R v) ω1) (hb : DE c Γ ω1 b (At l) ω2) (hm : Hold ω2 l (Cl R xs)) (hmk : behindInMarks .NotIn b = false := by rfl) : DE c Γ ω (.Compare a [.NotIn] [b] pos) (Bo (!decide (v ∈ xs))) ω2 := by
  intro X fx F σ B H hE hO Q hQ
  refine tW.of (pe_cmpR op_notIn_seq pe_w pe_w hmk) ?_
  refine ha X fx F σ B H hE hO _ fun v1 B1 H1 e1 O1 p1 => ?_
  refine hb X fx F σ B1 H1 (hE.mono e1) O1 _ fun v2 B2 H2 e2 O2 p2 => ?_
  exact in_own true ((R v).mono e2 p1) p2 hm O2 (hQ _ B2 H2 (e1.trans e2) O2 rfl)
theorem t_inO [DecidableEq α] [hF : FlatR R] (ha : DE c Γ ω a (R v) ω1) (hb : DE c Γ ω1 b (At l) ω2) (hm : Hold ω2 l (Cl R xs)) (hmk : behindInMarks .In b = false := by rfl) : DT c Γ ω (.Compare a [.In] [b] pos) (· = decide (v ∈ xs)) ω2 := by
  intro X fx F σ B H hE hO Q hQ
  refine tT.of (pt_cmpR op_in_seq pe_w pe_w hmk) ?_
  refine ha X fx F σ B H hE hO _ fun v1 B1 H1 e1 O1 p1 => ?_
  refine hb X fx F σ B1 H1 (hE.mono e1) O1 _ fun v2 B2 H2 e2 O2 p2 => ?_
  exact in_own false ((R v).mono e2 p1) p2 hm O2 ⟨_, rfl, hQ _ B2 H2 (e1.trans e2) O2 rfl⟩
theorem t_notinO [DecidableEq α] [hF : FlatR R] (ha : DE c Γ ω a (R v) ω1) (hb : DE c Γ ω1 b (At l) ω2) (hm : Hold ω2 l (Cl R xs)) (hmk : behindInMarks .NotIn b = false := by rfl) : DT c Γ ω (.Compare a [.NotIn] [b] pos) (· = !decide (v ∈ xs)) ω2 := by
  intro X fx F σ B H hE hO Q hQ
  refine tT.of (pt_cmpR op_notIn_seq pe_w pe_w hmk) ?_
  refine ha X fx F σ B H hE hO _ fun v1 B1 H1 e1 O1 p1 => ?_
  refine hb X fx F σ B1 H1 (hE.mono e1) O1 _ fun v2 B2 H2 e2 O2 p2 => ?_
  exact in_own true ((R v).mono e2 p1) p2 hm O2 ⟨_, rfl, hQ _ B2 H2 (e1.trans e2) O2 rfl⟩
end
end ZZ

set_option maxHeartbeats 2000000
/-! Y4: defs that answer a new owned thing; small rules the printer asks for. -/
namespace ZZ
open PySem PySem.Spec PyProof.Rows L2
open Evl (Ex)
/-! ### a def whose answer is a new owned thing -/
structure Cn (τ : Type) where
  As : τ → List Sh
  pre : τ → Prop := fun _ => True
  C : τ → Co
def Cn.sp {τ : Type} (t : Cn τ) : Sp := fun vs H Q _ => ∃ (g : τ) (F B : Hp), t.pre g ∧ All2 (fun v (s : Sh) => s.p B v) vs (t.As g) ∧ Own F [] B H ∧ ∀ l B' H', Ex B B' → Own F [(l, t.C g)] B' H' → Q (.ref l) H'
def Gn {τ : Type} (M : Mo) (k : Nat) (x : Str) (ps : List Str) (t : Cn τ) : Prop :=
  ∃ (f : Addr) (fd : FuncData), FnOk M.P M.w M.K M.mg M.base CX0 k f fd ps t.sp ∧ M.mg x = some (.ref f) ∧ PySem.W.keepIn M.K (.ref f) = true ∧ Binds M.K fd ps []
def RtN (B0 F : Hp) (rt : VK) (C : Co) (ω : Ws) : Prop := ∀ l B H, Ex B0 B → Own F ((l, C) :: ω) B H → rt (.ref l) H
theorem RtN.mono {B0 B1 F : Hp} {rt : VK} {C : Co} {ω : Ws} (h : RtN B0 F rt C ω) (e : Ex B0 B1) : RtN B1 F rt C ω := fun v B H e1 O => h v B H (e.trans e1) O
theorem Pr.gn {τ : Type} {t : Cn τ} {M : Mo} {k : Nat} {x : Str} {st : Stmt} {N ps : List Str} (P : Pr M x st ps) (S : FnScope N ps (defScope st)) (hlen : ∀ g, (t.As g).length = ps.length)
    (hbody : ∀ (X : Cx) (B0 F0 : Hp) (D : Ends) (g : τ), t.pre g → RtN B0 F0 D.rt (t.C g) [] → DS ⟨M, defScope st, k, true, false⟩ X B0 F0 D (mkΓ N (t.As g)) [] (defBody st)) : Gn M (k + 1) x ps t := by
  obtain ⟨f, fd, F, hm, hb⟩ := P
  refine ⟨f, fd, F.ok S (fun vs H Q E h => ?_) (fun cdv A outer s H vs Q E hr h => ?_), hm, F.kp, hb⟩
  · obtain ⟨g, _, _, _, h2, _⟩ := h
    rw [h2.len, hlen]
  · obtain ⟨g, F0, B, hp, hv, hO, hQ⟩ := h
    have hl : ps.length ≤ N.length := by have := congrArg List.length S.pre; rw [List.length_take] at this; omega
    refine ⟨_, pss_w, hbody _ B F0 _ g hp (fun v B' H' e1 O1 => hQ v B' H' e1 O1) ?_ _ B H (Ex.refl B) (mk_env N _ vs hv (by rw [hlen]; exact hl)) hO⟩
    rw [mk_names]
    exact ⟨rfl, rfl, rfl, rfl, rfl, rfl, rfl, S.nd, fun _ => rfl, fun _ => hr, L2H.roomH_of hr, (fun h => nomatch h), fun _ _ _ => rfl, PassesOwn.never⟩
section
variable {c : Cc} {X : Cx} {B0 F : Hp} {D : Ends} {Γ Γ0 Γ1 Γ2 Γ3 Γw : En} {ω ω1 ω2 ω3 ωo : Ws} {S T : Sh} {e o i t tg it a b d elt : Expr} {es : List Expr} {rest sts body : List Stmt} {x y : Str} {pos p p2 px py spos : Pos} {α β τ ρ ζ δ : Type} {R : α → Sh} {Rb : β → Sh} {Rs : α → Sh} {v w : α} {xs ys : List α} {G : Hp → ζ → Prop} {l : Addr} {C : Co} {bb b1 b2 : Bool} {k j : Int}
theorem d_callN [Cold c] {t : Cn τ} {k : Nat} {ps : List Str} {ss : List Sh} (g : τ) (Gx : Gn c.M k x ps t) (hp : t.pre g) (ha : DA c Γ ω (e :: es) ss ω1) (hs : ss = t.As g := by rfl) (hk : k ≤ c.k := by exact Nat.le_of_ble_eq_true rfl)
    (hg : Glo c.sc x := by exact rfl) (hdb : (x == ("__debug__" : Str)) = false := by decide) (he : ∀ env, starEach (e :: es) env = (false, eval e env) :: starEach es env := by intro _; rfl) (hpl : ∀ env, (backTo pos (starEach es env)).any (·.1) = false := by intro _; rfl) :
    DNc c Γ ω (.Call (.Name x p) (e :: es) [] pos) (t.C g) ω1 := by
  obtain ⟨f, fd, hF, hm, hkp, hb⟩ := Gx
  intro X fx F σ B H hE hO Q hQ
  have hF' : FnOk X.prog X.w X.K X.mg X.base CX0 k f fd ps t.sp := by rw [fx.prog, fx.w, fx.K, fx.mg, fx.base]; exact hF
  refine tW.of (pe_call (ds := []) (dvs := []) (E := E0) hF' (fx.room.mono hk) (gl_of fx hg) (by rw [fx.mg]; exact hm) (by rw [fx.K]; exact hkp) (by rw [fx.K]; exact hb) .nil pass0 pa_w hdb (he _) (hpl _)) ?_
  refine ha X fx F σ B H hE hO _ fun vs B1 H1 e1 O1 p1 => ?_
  subst hs
  have O1' : Own F ([] ++ ω1) B1 H1 := O1
  refine ⟨g, frame F ω1 H1, B1, hp, by rw [List.append_nil]; exact p1, O1'.focus, fun l B2 H2 e2 O2 => ?_⟩
  refine hQ l B2 H2 (e1.trans e2) ?_
  -- the new cell lies beside the old ones
  have nd := O1.nd
  have hl : B2 l = none ∧ frame F ω1 H1 l = none := by
    obtain ⟨h1, h2, _⟩ := O2.ow l _ List.mem_cons_self
    exact ⟨h1, h2⟩
  have hl1 : l ∉ ω1.map (·.1) := fun z => by
    obtain ⟨⟨l', C'⟩, hm', rfl⟩ := List.mem_map.mp z
    obtain ⟨_, _, o', h3, _⟩ := O1.ow _ _ hm'
    have := hl.2
    unfold frame at this
    rw [if_pos (mem_addr hm'), h3] at this
    cases this
  have old : ∀ m D, (m, D) ∈ ω1 → B2 m = none ∧ H2 m = H1 m := fun m D hm' => by
    have hm2 : m ∉ ([(l, t.C g)] : Ws).map (·.1) := fun z => by
      have : m = l := by simpa using z
      exact hl1 (this ▸ mem_addr hm')
    obtain ⟨q1, q2⟩ := O2.fr m hm2
    have hf : frame F ω1 H1 m = H1 m := by unfold frame; rw [if_pos (mem_addr hm')]
    obtain ⟨_, _, o', h3, _⟩ := O1.ow _ _ hm'
    rw [hf] at q1 q2
    have hb : B2 m = none := by
      rcases q1 with z | z
      · exact z
      · rw [h3] at z; cases z
    rw [hb] at q2
    exact ⟨hb, q2⟩
  refine ⟨List.nodup_cons.mpr ⟨hl1, nd⟩, fun m D hm' => ?_, fun a' ha' => ?_⟩
  · rcases List.mem_cons.mp hm' with z | z
    · cases z
      obtain ⟨h1, h2, h3⟩ := O2.ow l _ List.mem_cons_self
      refine ⟨h1, ?_, h3⟩
      unfold frame at h2
      rw [if_neg hl1] at h2
      exact h2
    · obtain ⟨_, h2, o', h3, h4⟩ := O1.ow _ _ z
      obtain ⟨q1, q2⟩ := old m D z
      exact ⟨q1, h2, o', by rw [q2]; exact h3, D.mono e2 h4⟩
  · rw [List.map_cons] at ha'
    have h1 : a' ∉ ω1.map (·.1) := fun z => ha' (List.mem_cons_of_mem _ z)
    have h2 : a' ∉ ([(l, t.C g)] : Ws).map (·.1) := fun z => by
      have : a' = l := by simpa using z
      exact ha' (by rw [this]; exact List.mem_cons_self)
    obtain ⟨q1, q2⟩ := O2.fr a' h2
    unfold frame at q1 q2
    rw [if_neg h1] at q1 q2
    exact ⟨q1, q2⟩
theorem Own.dropAll : ∀ {ω2 : Ws} {B H : Hp} {w : Addr × Co}, Own F (w :: ω2) B H → ∃ B', Ex B B' ∧ Own F [w] B' H := fun {ω2} {B} {H} {w} O => by
  have O' : Own F ([w] ++ ω2) B H := O
  exact O'.drop
theorem ds_retN (hR : RtN B0 F D.rt C []) (he : DE c Γ ω e (At l) ω) (ht : Tak ω l C ω1) : DS c X B0 F D Γ ω (.Return (some e) pos :: rest) := by
  intro fx σ B H hB hE hO
  refine tS.cons (ps_ret pe_w) ?_
  refine he X fx F σ B H hE hO _ fun v B1 H1 e1 O1 p1 => ?_
  rw [show v = V.ref l from p1]
  obtain ⟨B2, e2, O2⟩ := (O1.perm ht.perm).dropAll
  exact hR l B2 H1 ((hB.trans e1).trans e2) O2
theorem ds_retNn (hR : RtN B0 F D.rt C []) (he : DNc c Γ ω e C ω1) : DS c X B0 F D Γ ω (.Return (some e) pos :: rest) := by
  intro fx σ B H hB hE hO
  refine tS.cons (ps_ret pe_w) ?_
  refine he X fx F σ B H hE hO _ fun l B1 H1 e1 O1 => ?_
  obtain ⟨B2, e2, O2⟩ := O1.dropAll
  exact hR l B2 H1 ((hB.trans e1).trans e2) O2
/-- break, continue -/
theorem y_brk (f : Fg Γ Γ1) (hω : ω.Perm ω1) (h : ∀ pc rc, DS c X B0 F D Γ1 ω1 (.Break pc :: rc)) : DS c X B0 F D Γ ω (.Break pos :: rest) := y_re f hω (h pos rest)
theorem y_cnt (f : Fg Γ Γ1) (hω : ω.Perm ω1) (h : ∀ pc rc, DS c X B0 F D Γ1 ω1 (.Continue pc :: rc)) : DS c X B0 F D Γ ω (.Continue pos :: rest) := y_re f hω (h pos rest)
/-- the end of a def that says nothing -/
theorem ds_end0 (hN : ∀ σ H, D.rt .non H → D.nx σ H) {ωo : Ws} (hR : Rt B0 F D.rt No []) : DS c X B0 F D Γ ω [] := ds_nil fun σ B H hB hE hO => by
  have hO' : Own F ([] ++ ω) B H := hO
  obtain ⟨B2, e2, O2⟩ := hO'.drop
  exact hN σ H (hR .non B2 H (hB.trans e2) O2 rfl)

/-! ### tuples as rows of one kind -/
theorem all2_map {B : Hp} : ∀ {vs : List V} {xs : List α}, All2 (fun v (s : Sh) => s.p B v) vs (xs.map R) → All2 (fun v x => (R x).p B v) vs xs := fun h => All2.of_map h
theorem d_tupL {ss : List Sh} (h : DA c Γ ω es ss ω1) (hq : ss = xs.map R := by rfl) (hl : xs.length ≤ sizeLine := by show _ ≤ 16777216; simp) {x1} : DE c Γ ω (.Tuple es x1 pos) (Sq false R xs) ω1 := by
  subst hq
  exact (d_tup h (by rw [List.length_map]; exact hl)).wide sle_tup
theorem d_tupQ {ss : List Sh} (h : DE c Γ ω e (U ss) ω1) (hq : ss = xs.map R := by rfl) : DE c Γ ω e (Sq false R xs) ω1 := by
  subst hq
  exact h.wide sle_tup
theorem d_cmpK {op : Operator} {r : L2.R2} {SA SB : Sh} (ho : ∀ X, Fits c (Γ.map (·.1)) X → OpR X (binaryOp op) r) (ha : DE c Γ ω a SA ω1) (hb : DE c Γ ω1 b SB ω2) (hr : RR r SA SB S) : DE c Γ ω (.BinOp a op b pos) S ω2 := by
  intro X fx F σ B H hE hO Q hQ
  refine tW.of (pe_op (ho X fx) pe_w pe_w) ?_
  refine ha X fx F σ B H hE hO _ fun v B1 H1 e1 O1 p1 => ?_
  refine hb X fx F σ B1 H1 (hE.mono e1) O1 _ fun u B2 H2 e2 O2 p2 => ?_
  exact hr F ω2 B2 H2 v u (SA.mono e2 p1) p2 O2 Q fun z B' H' e3 O3 p3 => hQ z B' H' ((e1.trans e2).trans e3) O3 p3
theorem d_catT (hl : xs.length + ys.length ≤ 16777216) (ha : DE c Γ ω a (Sq false Rs xs) ω1) (hb : DE c Γ ω1 b (Sq false Rs ys) ω2) : DE c Γ ω (.BinOp a .Add b pos) (Sq false Rs (xs ++ ys)) ω2 :=
  d_cmpK (r := rCatA c.M.K) (fun X fx => by rw [← fx.K]; exact op_catA) ha hb fun F ω B H v u h1 h2 O Q q => by
    have h1' := h1
    have h2' := h2
    obtain ⟨a1, vs, rfl, g1, g2⟩ := sq_get h1 O.ex
    obtain ⟨b1, us, rfl, k1, k2⟩ := sq_get h2 O.ex
    refine ⟨a1, b1, vs, us, rfl, rfl, SqT.of g1, SqT.of k1, by rw [g2.len, k2.len]; exact hl, fun he => ?_, fun he he2 => ?_, fun h3 h4 p hp => ?_⟩
    · subst he
      cases g2
      exact q _ B H (Ex.refl B) O h2'
    · subst he2
      cases k2
      rw [List.append_nil] at q
      exact q _ B H (Ex.refl B) O h1'
    · obtain ⟨O4, e4⟩ := O.new (o := .tup (vs ++ us)) hp
      exact q _ _ _ e4 O4 ⟨p, _, rfl, upd_same, (g2.append k2).mp fun _ s z => (Rs s).mono e4 z⟩
theorem g_three [Cold c] {e1 e2 e3 : Expr} {k} {n1 n2 n3 : List Str} {S1 S2 S3 : Sh} (h1 : DG c e1 n1 S1 Γ Γ1) (h2 : DG c e2 n2 S2 Γ1 Γ2) (h3 : DG c e3 n3 S3 Γ2 Γ3) (hs : ∀ env, (assignEach [e1, e2, e3] env).map (·.2) = assign e1 env :: (assignEach [e2, e3] env).map (·.2) := by intro _; rfl) (hs2 : ∀ env, (assignEach [e2, e3] env).map (·.2) = assign e2 env :: (assignEach [e3] env).map (·.2) := by intro _; rfl) (hs3 : ∀ env, (assignEach [e3] env).map (·.2) = assign e3 env :: (assignEach [] env).map (·.2) := by intro _; rfl)
    (hn : ∀ env, (assignEach [e1, e2, e3] env).length = 3 := by intro _; rfl) (hst : ∀ env, (assignEach [e1, e2, e3] env).findIdx? (·.1) = none := by intro _; rfl) : DG c (.Tuple [e1, e2, e3] k pos) (n1 ++ (n2 ++ n3)) (U [S1, S2, S3]) Γ Γ3 := by
  refine ⟨h3.1.trans (h2.1.trans h1.1), fun X fx σ B H v hE hO hv Q hQ => ?_⟩
  obtain ⟨a, vs, rfl, q1, q2⟩ := hv
  obtain ⟨v, u, z, rfl, r1, r2, r3⟩ := all3 q2
  refine tG.of (pg_tup (n := 3) fx.calm (pgs_cons pg_w (pgs_cons pg_w (pgs_cons pg_w pgs_nil (hs3 _)) (hs2 _)) (hs _)) (hn _) (hst _)) ?_
  refine ⟨a, [v, u, z], rfl, SqT.of (hO _ _ q1), rfl, v, [u, z], rfl, ?_⟩
  refine h1.2 X fx σ B H v hE hO r1 _ fun σ1 hE1 o1 => ⟨u, [z], rfl, ?_⟩
  refine h2.2 X (fx.re h1.1) σ1 B H u hE1 hO r2 _ fun σ2 hE2 o2 => ⟨z, [], rfl, ?_⟩
  refine h3.2 X (fx.re (h2.1.trans h1.1)) σ2 B H z hE2 hO r3 _ fun σ3 hE3 o3 => ⟨rfl, hQ σ3 hE3 ⟨o3.1.trans (o2.1.trans o1.1), fun i x hi hx => ?_⟩⟩
  rw [o3.2 i x (by rw [h2.1, h1.1]; exact hi) (fun z => hx (List.mem_append_right _ (List.mem_append_right _ z))), o2.2 i x (by rw [h1.1]; exact hi) (fun z => hx (List.mem_append_right _ (List.mem_append_left _ z))), o1.2 i x hi (fun z => hx (List.mem_append_left _ z))]
end
end ZZ

set_option maxHeartbeats 2000000
/-! Y5: dictionaries with numbers or texts as keys. -/
namespace ZZ
open PySem PySem.Spec PyProof.Rows L2
open Evl (Ex)
/-! ### the functions -/
section
variable {κ β : Type} [DecidableEq κ]
def dget (kvs : List (κ × β)) (k : κ) : Option β := (kvs.find? fun p => decide (p.1 = k)).map (·.2)
def dhas (kvs : List (κ × β)) (k : κ) : Bool := (dget kvs k).isSome
def dgv [Inhabited β] (kvs : List (κ × β)) (k : κ) : β := (dget kvs k).getD default
def dgd (kvs : List (κ × β)) (k : κ) (d : β) : β := (dget kvs k).getD d
def dput (kvs : List (κ × β)) (k : κ) (v : β) : List (κ × β) := if (kvs.any fun p => decide (p.1 = k)) = true then kvs.map (fun p => if p.1 = k then (p.1, v) else p) else kvs ++ [(k, v)]
def dmk (kvs : List (κ × β)) : List (κ × β) := kvs.foldl (fun d p => dput d p.1 p.2) []
theorem dget_nil {k : κ} : dget ([] : List (κ × β)) k = none := rfl
theorem dget_cons {p : κ × β} {r : List (κ × β)} {k : κ} : dget (p :: r) k = if p.1 = k then some p.2 else dget r k := by
  unfold dget
  rw [List.find?_cons]
  by_cases e : p.1 = k
  · rw [if_pos e, decide_eq_true e]; rfl
  · rw [if_neg e, decide_eq_false e]
theorem dget_app {l r : List (κ × β)} {k : κ} : dget (l ++ r) k = (dget l k).or (dget r k) := by
  induction l with
  | nil => rfl
  | cons p l ih =>
    rw [List.cons_append, dget_cons, dget_cons]
    by_cases e : p.1 = k
    · rw [if_pos e, if_pos e]; rfl
    · rw [if_neg e, if_neg e, ih]
theorem any_dget {kvs : List (κ × β)} {k : κ} : (kvs.any fun p => decide (p.1 = k)) = dhas kvs k := by
  unfold dhas
  induction kvs with
  | nil => rfl
  | cons p l ih =>
    rw [List.any_cons, dget_cons]
    by_cases e : p.1 = k
    · rw [if_pos e, decide_eq_true e]; rfl
    · rw [if_neg e, decide_eq_false e, Bool.false_or, ih]
theorem dget_map {kvs : List (κ × β)} {k j : κ} {v : β} : dget (kvs.map fun p => if p.1 = k then (p.1, v) else p) j = (dget kvs j).map fun x => if j = k then v else x := by
  induction kvs with
  | nil => rfl
  | cons p l ih =>
    rw [List.map_cons, dget_cons, dget_cons, ih]
    by_cases e : p.1 = k
    · rw [if_pos e]
      by_cases e2 : p.1 = j
      · rw [if_pos e2, if_pos e2, Option.map_some, if_pos (e2.symm.trans e)]
      · rw [if_neg e2, if_neg e2]
    · rw [if_neg e]
      by_cases e2 : p.1 = j
      · rw [if_pos e2, if_pos e2, Option.map_some, if_neg (fun z => e (e2.trans z))]
      · rw [if_neg e2, if_neg e2]
theorem dget_put {kvs : List (κ × β)} {k j : κ} {v : β} : dget (dput kvs k v) j = if j = k then some v else dget kvs j := by
  unfold dput
  rw [any_dget]
  by_cases h : dhas kvs k = true
  · rw [if_pos h, dget_map]
    by_cases e : j = k
    · subst e
      unfold dhas at h
      rw [if_pos rfl]
      cases q : dget kvs j with
      | none => rw [q] at h; cases h
      | some x => simp
    · rw [if_neg e]
      cases q : dget kvs j with
      | none => rfl
      | some x => rw [Option.map_some, if_neg e]
  · rw [if_neg h, dget_app, dget_cons]
    by_cases e : j = k
    · subst e
      unfold dhas at h
      cases q : dget kvs j with
      | some x => rw [q] at h; exact absurd rfl h
      | none => rw [if_pos rfl, if_pos rfl]; rfl
    · rw [if_neg (fun z => e z.symm), if_neg e, dget_nil, Option.or_none]
theorem keys_put {kvs : List (κ × β)} {k : κ} {v : β} : (dput kvs k v).map Prod.fst = if dhas kvs k = true then kvs.map Prod.fst else kvs.map Prod.fst ++ [k] := by
  unfold dput
  rw [any_dget]
  by_cases h : dhas kvs k = true
  · rw [if_pos h, if_pos h, List.map_map]
    refine List.map_congr_left fun p _ => ?_
    show (if p.1 = k then (p.1, v) else p).1 = p.1
    by_cases e : p.1 = k
    · rw [if_pos e]
    · rw [if_neg e]
  · rw [if_neg h, if_neg h, List.map_append]; rfl
theorem dhas_mem {kvs : List (κ × β)} {k : κ} : dhas kvs k = true ↔ k ∈ kvs.map Prod.fst := by
  rw [← any_dget, List.any_eq_true, List.mem_map]
  constructor
  · rintro ⟨p, h1, h2⟩; exact ⟨p, h1, of_decide_eq_true h2⟩
  · rintro ⟨p, h1, h2⟩; exact ⟨p, h1, decide_eq_true h2⟩
end
/-! ### shapes -/
class KeyR {κ : Type} [DecidableEq κ] (R : κ → Sh) : Prop where
  val : ∃ f : κ → Key, (∀ x, R x = Sc (kV (f x))) ∧ ∀ x y, f x = f y → x = y
instance : KeyR I := ⟨Sum.inl, fun _ => rfl, fun _ _ h => Sum.inl.inj h⟩
instance : KeyR Tx := ⟨Sum.inr, fun _ => rfl, fun _ _ h => Sum.inr.inj h⟩
def DRel {κ β : Type} (Rk : κ → Sh) (Rv : β → Sh) (B : Hp) (p : Key × V) (q : κ × β) : Prop := (Rk q.1).p B (kV p.1) ∧ (Rv q.2).p B p.2
def Dc {κ β : Type} (Rk : κ → Sh) (Rv : β → Sh) (kvs : List (κ × β)) : Sh :=
  ⟨fun B u => ∃ a vs, u = .ref a ∧ B a = some (.dK vs) ∧ All2 (DRel Rk Rv B) vs kvs, fun e h => let ⟨a, vs, h1, h2, h3⟩ := h; ⟨a, vs, h1, e a _ h2, h3.mp fun _ _ q => ⟨(Rk _).mono e q.1, (Rv _).mono e q.2⟩⟩⟩
def Cd {κ β : Type} (Rk : κ → Sh) (Rv : β → Sh) (kvs : List (κ × β)) : Co :=
  ⟨fun B o => ∃ vs, o = .dK vs ∧ All2 (DRel Rk Rv B) vs kvs, fun e h => let ⟨vs, h1, h3⟩ := h; ⟨vs, h1, h3.mp fun _ _ q => ⟨(Rk _).mono e q.1, (Rv _).mono e q.2⟩⟩⟩
section
variable {κ β : Type} [DecidableEq κ] {Rk : κ → Sh} {Rv : β → Sh} {B : Hp}
theorem drel_key {f : κ → Key} (h1 : ∀ x, Rk x = Sc (kV (f x))) {p : Key × V} {q : κ × β} (h : DRel Rk Rv B p q) : p.1 = f q.1 := by
  have h := h.1
  rw [h1] at h
  exact kV_inj h
theorem drel_get {f : κ → Key} (h1 : ∀ x, Rk x = Sc (kV (f x))) (h2 : ∀ x y, f x = f y → x = y) {k : κ} : ∀ {vs : List (Key × V)} {kvs : List (κ × β)}, All2 (DRel Rk Rv B) vs kvs → (dget kvs k = none → valV vs (f k) = none) ∧ ∀ x, dget kvs k = some x → ∃ v, valV vs (f k) = some v ∧ (Rv x).p B v
  | _, _, .nil => ⟨fun _ => rfl, fun x h => nomatch h⟩
  | _, _, .cons (a := p) (b := q) h t => by
    have e := drel_key h1 h
    obtain ⟨i1, i2⟩ := drel_get h1 h2 (k := k) t
    rw [dget_cons]
    by_cases z : q.1 = k
    · rw [if_pos z, valV_pos (by rw [e, z])]
      exact ⟨(fun h => nomatch h), fun x hx => ⟨_, rfl, by cases hx; exact h.2⟩⟩
    · rw [if_neg z, valV_neg (by rw [e]; exact fun y => z (h2 _ _ y))]
      exact ⟨i1, i2⟩
omit [DecidableEq κ] in
theorem drel_keys : ∀ {vs : List (Key × V)} {kvs : List (κ × β)}, All2 (DRel Rk Rv B) vs kvs → All2 (fun v x => (Rk x).p B v) (vs.map fun kv => kV kv.1) (kvs.map Prod.fst)
  | _, _, .nil => .nil
  | _, _, .cons h t => .cons h.1 (drel_keys t)
theorem drel_any {f : κ → Key} (h1 : ∀ x, Rk x = Sc (kV (f x))) (h2 : ∀ x y, f x = f y → x = y) {k : κ} : ∀ {vs : List (Key × V)} {kvs : List (κ × β)}, All2 (DRel Rk Rv B) vs kvs → (vs.any fun p => decide (p.1 = f k)) = (kvs.any fun p => decide (p.1 = k))
  | _, _, .nil => rfl
  | _, _, .cons (a := p) (b := q) h t => by
    have e := drel_key h1 h
    rw [List.any_cons, List.any_cons, drel_any h1 h2 t, e]
    congr 1
    by_cases z : q.1 = k
    · rw [decide_eq_true z, z, decide_eq_true rfl]
    · rw [decide_eq_false z, decide_eq_false fun y => z (h2 _ _ y)]
theorem drel_put {f : κ → Key} (h1 : ∀ x, Rk x = Sc (kV (f x))) (h2 : ∀ x y, f x = f y → x = y) {k : κ} {x : β} {v : V} (hv : (Rv x).p B v) {vs : List (Key × V)} {kvs : List (κ × β)} (h : All2 (DRel Rk Rv B) vs kvs) : All2 (DRel Rk Rv B) (putK vs (f k) v) (dput kvs k x) := by
  unfold putK dput
  rw [drel_any h1 h2 h]
  by_cases z : (kvs.any fun p => decide (p.1 = k)) = true
  · rw [if_pos z, if_pos z]
    clear z
    induction h with
    | nil => exact .nil
    | cons h t ih =>
      rename_i p q _ _
      have e := drel_key h1 h
      refine .cons ?_ ih
      show DRel Rk Rv B (if p.1 = f k then (p.1, v) else p) (if q.1 = k then (q.1, x) else q)
      by_cases y : q.1 = k
      · rw [if_pos (by rw [e, y]), if_pos y]; exact ⟨h.1, hv⟩
      · rw [if_neg (by rw [e]; exact fun z => y (h2 _ _ z)), if_neg y]; exact h
  · rw [if_neg z, if_neg z]
    exact h.append (.cons ⟨by show (Rk k).p B _; rw [h1]; rfl, hv⟩ .nil)
end
section
variable {c : Cc} {X : Cx} {B0 F : Hp} {D : Ends} {Γ Γ0 Γ1 Γ2 Γ3 Γw : En} {ω ω1 ω2 ω3 ωo : Ws} {S T : Sh} {e o i t tg it a b d elt ek ev : Expr} {es : List Expr} {rest sts body : List Stmt} {x y : Str} {pos p p2 px py spos : Pos} {α κ β τ ρ ζ δ : Type} [DecidableEq κ] {R : α → Sh} {Rk : κ → Sh} {Rv : β → Sh} {Rb : δ → Sh} {kvs : List (κ × β)} {k0 : κ} {v0 : β} {G : Hp → ζ → Prop} {l : Addr} {C : Co} {ys : List δ} {scope : Scope}
theorem n_dict0 : DNc c Γ ω (.Dict [] [] pos) (Cd Rk Rv ([] : List (κ × β))) ω := by
  intro X fx F σ B H hE hO Q hQ
  exact tW.of pe_dnewK fun p hp => hQ p B _ (Ex.refl B) (hO.cons hp ⟨[], rfl, .nil⟩)
theorem DNc.frzD (h : DNc c Γ ω e (Cd Rk Rv kvs) ω1) : DE c Γ ω e (Dc Rk Rv kvs) ω1 := fun X fx F σ B H hE hO Q hQ =>
  h X fx F σ B H hE hO Q fun l B' H' e1 O1 => by
    obtain ⟨o, h1, ⟨vs, rfl, h3⟩, O2, e2⟩ := O1.freeze .z
    exact hQ _ _ _ (e1.trans e2) O2 ⟨l, vs, rfl, upd_same, h3.mp fun _ _ q => ⟨(Rk _).mono e2 q.1, (Rv _).mono e2 q.2⟩⟩
theorem ds_freezeD (hu : Upg Γ x (At l) (Dc Rk Rv kvs) Γ1) (ht : Tak ω l (Cd Rk Rv kvs) ω1) (k : DS c X B0 F D Γ1 ω1 sts) : DS c X B0 F D Γ ω sts := by
  intro fx σ B H hB hE hO
  obtain ⟨o, h1, ⟨vs, rfl, h3⟩, O2, e2⟩ := hO.freeze ht
  refine k (fx.re hu.names) σ _ H (hB.trans e2) (hu.env (fun v hv => ?_) (hE.mono e2)) O2
  exact ⟨l, vs, hv, upd_same, h3.mp fun _ _ q => ⟨(Rk _).mono e2 q.1, (Rv _).mono e2 q.2⟩⟩
variable [hK : KeyR Rk]
theorem dc_get {H : Hp} {B : Hp} {v u : V} (h : (Dc Rk Rv kvs).p B v) (e : Ex B H) (hu : (Rk k0).p B u) : ∃ a o, v = .ref a ∧ L2.DGet H a u o ∧ o.isSome = dhas kvs k0 ∧ ∀ x, dget kvs k0 = some x → ∃ w, o = some w ∧ (Rv x).p B w := by
  obtain ⟨f, h1, h2⟩ := hK.val
  obtain ⟨a, vs, rfl, g1, g2⟩ := h
  rw [h1] at hu
  have hu : u = kV (f k0) := hu
  subst hu
  obtain ⟨q1, q2⟩ := drel_get h1 h2 (k := k0) g2
  refine ⟨a, _, rfl, DGet.k (e _ _ g1), ?_, q2⟩
  unfold dhas
  cases z : dget kvs k0 with
  | none => rw [q1 z]; rfl
  | some x => obtain ⟨w, hw, _⟩ := q2 x z; rw [hw]; rfl
theorem d_dget [Inhabited β] (hk : (dget kvs k0).isSome = true) (ha : DE c Γ ω o (Dc Rk Rv kvs) ω1) (hb : DE c Γ ω1 i (Rk k0) ω2) [hc : Cold c] (hs : NoSl i := by exact fun _ _ => rfl) : DE c Γ ω (.Subscript o i pos) (Rv (dgv kvs k0)) ω2 := by
  intro X fx F σ B H hE hO Q hQ
  refine tW.of (pe_dget (hu_of fx.room) pe_w pe_w hs) ?_
  refine ha X fx F σ B H hE hO _ fun v B1 H1 e1 O1 p1 => ?_
  refine hb X fx F σ B1 H1 (hE.mono e1) O1 _ fun u B2 H2 e2 O2 p2 => ?_
  obtain ⟨a, ov, rfl, g1, g2, g3⟩ := dc_get ((Dc Rk Rv kvs).mono e2 p1) O2.ex p2
  obtain ⟨x, hx⟩ := Option.isSome_iff_exists.mp hk
  obtain ⟨w, rfl, hw⟩ := g3 x hx
  refine ⟨a, w, rfl, g1, hQ _ B2 H2 (e1.trans e2) O2 ?_⟩
  unfold dgv
  rw [hx]; exact hw
theorem own_get {F B H : Hp} {u : V} (hm : Hold ω l (Cd Rk Rv kvs)) (O : Own F ω B H) (hu : (Rk k0).p B u) : ∃ o, L2.DGet H l u o ∧ o.isSome = dhas kvs k0 ∧ ∀ x, dget kvs k0 = some x → ∃ w, o = some w ∧ (Rv x).p B w := by
  obtain ⟨f, h1, h2⟩ := hK.val
  obtain ⟨_, _, o', g1, vs, rfl, g2⟩ := O.ow _ _ hm.mem
  rw [h1] at hu
  have hu : u = kV (f k0) := hu
  subst hu
  obtain ⟨q1, q2⟩ := drel_get h1 h2 (k := k0) g2
  refine ⟨_, DGet.k g1, ?_, q2⟩
  unfold dhas
  cases z : dget kvs k0 with
  | none => rw [q1 z]; rfl
  | some x => obtain ⟨w, hw, _⟩ := q2 x z; rw [hw]; rfl
theorem d_dgetO [Inhabited β] (hk : (dget kvs k0).isSome = true) (ha : DE c Γ ω o (At l) ω1) (hb : DE c Γ ω1 i (Rk k0) ω2) (hm : Hold ω2 l (Cd Rk Rv kvs)) [hc : Cold c] (hs : NoSl i := by exact fun _ _ => rfl) : DE c Γ ω (.Subscript o i pos) (Rv (dgv kvs k0)) ω2 := by
  intro X fx F σ B H hE hO Q hQ
  refine tW.of (pe_dget (hu_of fx.room) pe_w pe_w hs) ?_
  refine ha X fx F σ B H hE hO _ fun v B1 H1 e1 O1 p1 => ?_
  refine hb X fx F σ B1 H1 (hE.mono e1) O1 _ fun u B2 H2 e2 O2 p2 => ?_
  obtain ⟨ov, g1, g2, g3⟩ := own_get hm O2 p2
  obtain ⟨x, hx⟩ := Option.isSome_iff_exists.mp hk
  obtain ⟨w, rfl, hw⟩ := g3 x hx
  refine ⟨l, w, p1, g1, hQ _ B2 H2 (e1.trans e2) O2 ?_⟩
  unfold dgv
  rw [hx]; exact hw
/-! k in d -/
section
variable [hc : Cold c]
theorem d_din (ha : DE c Γ ω i (Rk k0) ω1) (hb : DE c Γ ω1 o (Dc Rk Rv kvs) ω2) (hmk : behindInMarks .In o = false := by rfl) : DE c Γ ω (.Compare i [.In] [o] pos) (Bo (dhas kvs k0)) ω2 := by
  intro X fx F σ B H hE hO Q hQ
  refine tW.of (pe_cmp (pc_din (hu_of fx.room) pe_w pe_w) hmk) ?_
  refine ha X fx F σ B H hE hO _ fun v B1 H1 e1 O1 p1 => ?_
  refine hb X fx F σ B1 H1 (hE.mono e1) O1 _ fun u B2 H2 e2 O2 p2 => ?_
  obtain ⟨a, ov, rfl, g1, g2, g3⟩ := dc_get p2 O2.ex ((Rk k0).mono e2 p1)
  exact ⟨a, ov, rfl, g1, hQ _ B2 H2 (e1.trans e2) O2 (by show V.bl _ = V.bl _; rw [g2])⟩
theorem d_dnotin (ha : DE c Γ ω i (Rk k0) ω1) (hb : DE c Γ ω1 o (Dc Rk Rv kvs) ω2) (hmk : behindInMarks .NotIn o = false := by rfl) : DE c Γ ω (.Compare i [.NotIn] [o] pos) (Bo (!dhas kvs k0)) ω2 := by
  intro X fx F σ B H hE hO Q hQ
  refine tW.of (pe_cmp (pc_dnotin (hu_of fx.room) pe_w pe_w) hmk) ?_
  refine ha X fx F σ B H hE hO _ fun v B1 H1 e1 O1 p1 => ?_
  refine hb X fx F σ B1 H1 (hE.mono e1) O1 _ fun u B2 H2 e2 O2 p2 => ?_
  obtain ⟨a, ov, rfl, g1, g2, g3⟩ := dc_get p2 O2.ex ((Rk k0).mono e2 p1)
  exact ⟨a, ov, rfl, g1, hQ _ B2 H2 (e1.trans e2) O2 (by show V.bl _ = V.bl _; rw [g2])⟩
theorem t_din (ha : DE c Γ ω i (Rk k0) ω1) (hb : DE c Γ ω1 o (Dc Rk Rv kvs) ω2) (hmk : behindInMarks .In o = false := by rfl) : DT c Γ ω (.Compare i [.In] [o] pos) (· = dhas kvs k0) ω2 := by
  intro X fx F σ B H hE hO Q hQ
  refine tT.of (L2.pt_cmp (pc_din (hu_of fx.room) pe_w pe_w) hmk) ?_
  refine ha X fx F σ B H hE hO _ fun v B1 H1 e1 O1 p1 => ?_
  refine hb X fx F σ B1 H1 (hE.mono e1) O1 _ fun u B2 H2 e2 O2 p2 => ?_
  obtain ⟨a, ov, rfl, g1, g2, g3⟩ := dc_get p2 O2.ex ((Rk k0).mono e2 p1)
  exact ⟨a, ov, rfl, g1, _, rfl, hQ _ B2 H2 (e1.trans e2) O2 g2⟩
theorem t_dnotin (ha : DE c Γ ω i (Rk k0) ω1) (hb : DE c Γ ω1 o (Dc Rk Rv kvs) ω2) (hmk : behindInMarks .NotIn o = false := by rfl) : DT c Γ ω (.Compare i [.NotIn] [o] pos) (· = !dhas kvs k0) ω2 := by
  intro X fx F σ B H hE hO Q hQ
  refine tT.of (L2.pt_cmp (pc_dnotin (hu_of fx.room) pe_w pe_w) hmk) ?_
  refine ha X fx F σ B H hE hO _ fun v B1 H1 e1 O1 p1 => ?_
  refine hb X fx F σ B1 H1 (hE.mono e1) O1 _ fun u B2 H2 e2 O2 p2 => ?_
  obtain ⟨a, ov, rfl, g1, g2, g3⟩ := dc_get p2 O2.ex ((Rk k0).mono e2 p1)
  exact ⟨a, ov, rfl, g1, _, rfl, hQ _ B2 H2 (e1.trans e2) O2 (by rw [g2])⟩
theorem d_dinO (ha : DE c Γ ω i (Rk k0) ω1) (hb : DE c Γ ω1 o (At l) ω2) (hm : Hold ω2 l (Cd Rk Rv kvs)) (hmk : behindInMarks .In o = false := by rfl) : DE c Γ ω (.Compare i [.In] [o] pos) (Bo (dhas kvs k0)) ω2 := by
  intro X fx F σ B H hE hO Q hQ
  refine tW.of (pe_cmp (pc_din (hu_of fx.room) pe_w pe_w) hmk) ?_
  refine ha X fx F σ B H hE hO _ fun v B1 H1 e1 O1 p1 => ?_
  refine hb X fx F σ B1 H1 (hE.mono e1) O1 _ fun u B2 H2 e2 O2 p2 => ?_
  obtain ⟨ov, g1, g2, g3⟩ := own_get hm O2 ((Rk k0).mono e2 p1)
  exact ⟨l, ov, p2, g1, hQ _ B2 H2 (e1.trans e2) O2 (by show V.bl _ = V.bl _; rw [g2])⟩
theorem d_dnotinO (ha : DE c Γ ω i (Rk k0) ω1) (hb : DE c Γ ω1 o (At l) ω2) (hm : Hold ω2 l (Cd Rk Rv kvs)) (hmk : behindInMarks .NotIn o = false := by rfl) : DE c Γ ω (.Compare i [.NotIn] [o] pos) (Bo (!dhas kvs k0)) ω2 := by
  intro X fx F σ B H hE hO Q hQ
  refine tW.of (pe_cmp (pc_dnotin (hu_of fx.room) pe_w pe_w) hmk) ?_
  refine ha X fx F σ B H hE hO _ fun v B1 H1 e1 O1 p1 => ?_
  refine hb X fx F σ B1 H1 (hE.mono e1) O1 _ fun u B2 H2 e2 O2 p2 => ?_
  obtain ⟨ov, g1, g2, g3⟩ := own_get hm O2 ((Rk k0).mono e2 p1)
  exact ⟨l, ov, p2, g1, hQ _ B2 H2 (e1.trans e2) O2 (by show V.bl _ = V.bl _; rw [g2])⟩
theorem t_dinO (ha : DE c Γ ω i (Rk k0) ω1) (hb : DE c Γ ω1 o (At l) ω2) (hm : Hold ω2 l (Cd Rk Rv kvs)) (hmk : behindInMarks .In o = false := by rfl) : DT c Γ ω (.Compare i [.In] [o] pos) (· = dhas kvs k0) ω2 := by
  intro X fx F σ B H hE hO Q hQ
  refine tT.of (L2.pt_cmp (pc_din (hu_of fx.room) pe_w pe_w) hmk) ?_
  refine ha X fx F σ B H hE hO _ fun v B1 H1 e1 O1 p1 => ?_
  refine hb X fx F σ B1 H1 (hE.mono e1) O1 _ fun u B2 H2 e2 O2 p2 => ?_
  obtain ⟨ov, g1, g2, g3⟩ := own_get hm O2 ((Rk k0).mono e2 p1)
  exact ⟨l, ov, p2, g1, _, rfl, hQ _ B2 H2 (e1.trans e2) O2 g2⟩
theorem t_dnotinO (ha : DE c Γ ω i (Rk k0) ω1) (hb : DE c Γ ω1 o (At l) ω2) (hm : Hold ω2 l (Cd Rk Rv kvs)) (hmk : behindInMarks .NotIn o = false := by rfl) : DT c Γ ω (.Compare i [.NotIn] [o] pos) (· = !dhas kvs k0) ω2 := by
  intro X fx F σ B H hE hO Q hQ
  refine tT.of (L2.pt_cmp (pc_dnotin (hu_of fx.room) pe_w pe_w) hmk) ?_
  refine ha X fx F σ B H hE hO _ fun v B1 H1 e1 O1 p1 => ?_
  refine hb X fx F σ B1 H1 (hE.mono e1) O1 _ fun u B2 H2 e2 O2 p2 => ?_
  obtain ⟨ov, g1, g2, g3⟩ := own_get hm O2 ((Rk k0).mono e2 p1)
  exact ⟨l, ov, p2, g1, _, rfl, hQ _ B2 H2 (e1.trans e2) O2 (by rw [g2])⟩
/-! d.get(k, x) -/
theorem d_dgd {apos cpos : Pos} (ha : DE c Γ ω o (Dc Rk Rv kvs) ω1) (hb : DE c Γ ω1 i (Rk k0) ω2) (hx : DE c Γ ω2 e (Rv v0) ω3) (m : ∀ X : Cx, M2 X o "get" apos i e cpos := by exact fun X => ⟨rfl, rfl, rfl, rfl⟩) : DE c Γ ω (.Call (.Attribute o "get" apos) [i, e] [] cpos) (Rv (dgd kvs k0 v0)) ω3 := by
  intro X fx F σ B H hE hO Q hQ
  refine tW.of (pe_dget2 (hu_of fx.room) pe_w pe_w pe_w (m X)) ?_
  refine ha X fx F σ B H hE hO _ fun v B1 H1 e1 O1 p1 => ?_
  obtain ⟨a, vs, rfl, g1, g2⟩ := p1
  refine ⟨a, rfl, .inl ⟨_, .inl (O1.ex _ _ g1)⟩, ?_⟩
  refine hb X fx F σ B1 H1 (hE.mono e1) O1 _ fun u B2 H2 e2 O2 p2 => ?_
  refine hx X fx F σ B2 H2 (hE.mono (e1.trans e2)) O2 _ fun z B3 H3 e3 O3 p3 => ?_
  obtain ⟨a', ov, ea, q1, q2, q3⟩ := dc_get ((Dc Rk Rv kvs).mono (e2.trans e3) ⟨a, vs, rfl, g1, g2⟩) O3.ex ((Rk k0).mono e3 p2)
  cases ea
  refine ⟨ov, q1, hQ _ B3 H3 ((e1.trans e2).trans e3) O3 ?_⟩
  unfold dgd
  cases h : dget kvs k0 with
  | none =>
    unfold dhas at q2
    rw [h] at q2
    cases ov with
    | none => exact p3
    | some _ => cases q2
  | some x => obtain ⟨w, rfl, hw⟩ := q3 x h; exact hw
theorem d_dgdO {apos cpos : Pos} (ha : DE c Γ ω o (At l) ω) (hb : DE c Γ ω i (Rk k0) ω) (hx : DE c Γ ω e (Rv v0) ω) (hm : Hold ω l (Cd Rk Rv kvs)) (m : ∀ X : Cx, M2 X o "get" apos i e cpos := by exact fun X => ⟨rfl, rfl, rfl, rfl⟩) : DE c Γ ω (.Call (.Attribute o "get" apos) [i, e] [] cpos) (Rv (dgd kvs k0 v0)) ω := by
  intro X fx F σ B H hE hO Q hQ
  refine tW.of (pe_dget2 (hu_of fx.room) pe_w pe_w pe_w (m X)) ?_
  refine ha X fx F σ B H hE hO _ fun v B1 H1 e1 O1 p1 => ?_
  have p1 : v = .ref l := p1
  subst p1
  obtain ⟨_, _, o', g1, vs, rfl, g2⟩ := O1.ow _ _ hm.mem
  refine ⟨l, rfl, .inl ⟨_, .inl g1⟩, ?_⟩
  refine hb X fx F σ B1 H1 (hE.mono e1) O1 _ fun u B2 H2 e2 O2 p2 => ?_
  refine hx X fx F σ B2 H2 (hE.mono (e1.trans e2)) O2 _ fun z B3 H3 e3 O3 p3 => ?_
  obtain ⟨ov, q1, q2, q3⟩ := own_get hm O3 ((Rk k0).mono e3 p2)
  refine ⟨ov, q1, hQ _ B3 H3 ((e1.trans e2).trans e3) O3 ?_⟩
  unfold dgd
  cases h : dget kvs k0 with
  | none =>
    unfold dhas at q2
    rw [h] at q2
    cases ov with
    | none => exact p3
    | some _ => cases q2
  | some x => obtain ⟨w, rfl, hw⟩ := q3 x h; exact hw
/-- d[k] = v -/
theorem y_dput {kk : List (κ × β) → ζ} {okk : List (κ × β) → Prop} (hl : oks kvs) (hz : Go G B0 (lt (dput kvs k0 v0) kk)) (hp : lt (dput kvs k0 v0) okk) (he : DE c Γ ω e (Rv v0) ω) (ho : DE c Γ ω o (At l) ω) (hi : DE c Γ ω i (Rk k0) ω) (hm : Hold ω l (Cd Rk Rv kvs)) (k : ∀ s, Go G B0 (kk s) → okk s → ∃ ω2, Swp ω l (Cd Rk Rv kvs) (Cd Rk Rv s) ω2 ∧ DS c X B0 F D Γ ω2 rest)
    (hs : ∀ env, swapsWith e (some (.Subscript o i p)) pos.line env = pure false := by intro _; rfl) : DS c X B0 F D Γ ω (.Assign [.Subscript o i p] e pos :: rest) := by
  obtain ⟨ω2, hsw, k⟩ := k _ hz hp
  intro fx σ B H hB hE hO
  obtain ⟨f, h1, h2⟩ := hK.val
  refine tS.cons (ps_dput (hu_of fx.room) pe_w pe_w pe_w (hs _)) ?_
  refine he X fx F σ B H hE hO _ fun v B1 H1 e1 O1 p1 => ?_
  refine ho X fx F σ B1 H1 (hE.mono e1) O1 _ fun u B2 H2 e2 O2 p2 => ?_
  refine hi X fx F σ B2 H2 (hE.mono (e1.trans e2)) O2 _ fun z B3 H3 e3 O3 p3 => ?_
  obtain ⟨_, _, o', g1, vs, rfl, g2⟩ := O3.ow _ _ hm.mem
  rw [h1] at p3
  have p3 : z = kV (f k0) := p3
  subst p3
  refine ⟨l, _, p2, DPut.k g1 (by rw [g2.len]; exact hl), ?_⟩
  exact k fx σ B3 _ (((hB.trans e1).trans e2).trans e3) (hE.mono ((e1.trans e2).trans e3)) (O3.swp hsw ⟨_, rfl, drel_put h1 h2 ((Rv v0).mono (e2.trans e3) p1) g2⟩)
end
omit [DecidableEq κ] hK in
theorem d_lenD (ha : DE c Γ ω a (Dc Rk Rv kvs) ω1) (hm : c.M.mg "len" = none) (hg : Glo c.sc "len" := by exact rfl) (he : ∀ env, starEach [a] env = (false, eval a env) :: starEach [] env := by intro _; rfl) : DE c Γ ω (.Call (.Name "len" p) [a] [] pos) (I (kvs.length : Int)) ω1 :=
  d_callB (fun X fx => call_lenD) hg hm PySem.boot_len (a_cons ha a_nil he) (rc1 fun F ω B H v hv O Q q => by
    obtain ⟨a1, vs, rfl, g1, g2⟩ := hv
    exact ⟨a1, vs, rfl, O.ex _ _ g1, q _ B H (Ex.refl B) O (by show V.int _ = V.int _; rw [g2.len])⟩) (he := he)
omit [DecidableEq κ] hK in
theorem d_lenDO (ha : DE c Γ ω a (At l) ω1) (hh : Hold ω1 l (Cd Rk Rv kvs)) (hm : c.M.mg "len" = none) (hg : Glo c.sc "len" := by exact rfl) (he : ∀ env, starEach [a] env = (false, eval a env) :: starEach [] env := by intro _; rfl) : DE c Γ ω (.Call (.Name "len" p) [a] [] pos) (I (kvs.length : Int)) ω1 := by
  intro X fx F σ B H hE hO Q hQ
  refine tW.of (pe_callB call_lenD (gl_of fx hg) (by rw [fx.mg]; exact hm) PySem.boot_len pa_w (he := he _)) ?_
  refine a_cons ha a_nil he X fx F σ B H hE hO _ fun vs B1 H1 e1 O1 p1 => ?_
  obtain ⟨v, rfl, hv⟩ := all1 p1
  obtain ⟨_, _, o, h2, us, rfl, h3⟩ := O1.ow _ _ hh.mem
  exact ⟨l, us, by rw [show v = V.ref l from hv], h2, hQ _ B1 H1 e1 O1 (by show V.int _ = V.int _; rw [h3.len])⟩
omit hK in
/-- list(d) -/
theorem n_listD [Cold c] (ha : DE c Γ ω a (Dc Rk Rv kvs) ω1) (hm : c.M.mg "list" = none) (hg : Glo c.sc "list" := by exact rfl) (he : ∀ env, starEach [a] env = (false, eval a env) :: starEach [] env := by intro _; rfl) : DNc c Γ ω (.Call (.Name "list" p) [a] [] pos) (Cl Rk (kvs.map Prod.fst)) ω1 := by
  intro X fx F σ B H hE hO Q hQ
  refine tW.of (pe_callTy (call_listD fx.calm) (gl_of fx hg) (by rw [fx.mg]; exact hm) PyProof.Rows.boot_list pa_w (he := he _)) ?_
  refine a_cons ha a_nil he X fx F σ B H hE hO _ fun vs B1 H1 e1 O1 p1 => ?_
  obtain ⟨v, rfl, hv⟩ := all1 p1
  obtain ⟨a1, us, rfl, g1, g2⟩ := hv
  exact ⟨a1, us, rfl, .inl (O1.ex _ _ g1), fun q hq => hQ q _ _ e1 (O1.cons hq (C := Cl Rk (kvs.map Prod.fst)) ⟨_, rfl, drel_keys g2⟩)⟩
/-- {k: v for ..} -/
theorem n_dmap [Cold c] {f : δ → κ} {g : δ → β} {ok : δ → Prop} (own : List (Str × Nat)) (hk : okall ok ys) (hz : oks ys) (hi : DIl c Γ ω tg it ys Rb ω1) (ok' : BlkOk (Γ.map (·.1)) c.sc scope own) (hw : Wip Γ own Γw)
    (hb : ∀ y, ok y → ∃ Γb ns, DG ⟨c.M, relS scope c.sc, c.k, false, false⟩ tg ns (Rb y) Γw Γb ∧ (∀ x ∈ ns, x ∈ own.map (·.1)) ∧ DE ⟨c.M, relS scope c.sc, c.k, false, false⟩ Γb ω1 ek (Rk (f y)) ω1 ∧ DE ⟨c.M, relS scope c.sc, c.k, false, false⟩ Γb ω1 ev (Rv (g y)) ω1)
    (hs : ∀ env x, foldedSetIterable it env x = pure x := by intro _ _; rfl) : DNc c Γ ω (.DictComp ek ev [⟨tg, it, [], 0⟩] scope pos) (Cd Rk Rv (dmk (ys.map fun y => (f y, g y)))) ω1 := by
  obtain ⟨fk, h1, h2⟩ := hK.val
  have hi' : DI c Γ ω tg it ys.length (fun i y => ys[i]? = some y) Rb ω1 := hi
  intro X fx F σ B H hE hO Q hQ
  refine tW.of (pe_dc (own := own) fx.calm (by rw [fx.ns]; exact fx.nd) pi_w (by rw [fx.ns, fx.sc]; exact ok') (g := gBlk X scope tg) (tk := eBlk X scope ek) (tv := eBlk X scope ev) (fun s H0 C cl fp => ⟨fun pins s' σ H v u Q I r h => h s H0 C cl fp pins s' u I r⟩) (fun s H0 C cl fp => pts_blk (ifs := []) (.inl rfl) s H0 C cl fp)
    (fun s H0 C cl fp => ⟨fun pins s' σ H Q I h => h s H0 C cl fp pins s' I⟩) (fun s H0 C cl fp => ⟨fun pins s' σ H Q I h => h s H0 C cl fp pins s' I⟩) (hs _)) ?_
  refine hi' X fx F σ B H hE hO _ fun It B1 H1 e1 O1 hit A hA => ?_
  have hl : σ.length = (Γ.map (·.1)).length := by rw [hE.len, List.length_map]
  let J : Nat → List (κ × β) := fun i => dmk ((ys.take i).map fun y => (f y, g y))
  have hJ : ∀ i y, ys[i]? = some y → J (i + 1) = dput (J i) (f y) (g y) := fun i y hy => by
    show dmk _ = _
    rw [List.take_add_one, hy, Option.toList_some, List.map_append]
    unfold dmk
    rw [List.foldl_append]
    rfl
  have hJl : ∀ i, (J i).length ≤ i := by
    intro i
    induction i with
    | zero => show (dmk ((ys.take 0).map _)).length ≤ 0; rw [List.take_zero]; exact Nat.le_refl _
    | succ i ih =>
      by_cases hlt : i < ys.length
      · rw [hJ i _ (List.getElem?_eq_getElem hlt)]
        have : ∀ (d : List (κ × β)) k v, (dput d k v).length ≤ d.length + 1 := fun d k v => by
          unfold dput
          split
          · rw [List.length_map]; omega
          · rw [List.length_append]; exact Nat.le_refl _
        have := this (J i) (f ys[i]) (g ys[i])
        omega
      · have e : J (i + 1) = J i := by
          show dmk _ = dmk _
          rw [List.take_of_length_le (by omega), List.take_of_length_le (by omega)]
        rw [e]; omega
  refine ⟨fun i m H' => m = ys.length - i ∧ i ≤ ys.length ∧ ∃ B', Ex B1 B' ∧ Own F ((A, Cd Rk Rv (J i)) :: ω1) B' H', ⟨ys.length, by simp, Nat.zero_le _, B1, Ex.refl B1, O1.cons hA ⟨[], rfl, by show All2 _ [] (dmk ((ys.take 0).map _)); rw [List.take_zero]; exact .nil⟩⟩, ?_⟩
  rintro i m H2 ⟨rfl, hin, B2, e2, O2⟩
  obtain ⟨q1, q2, q3⟩ := hit B2 H2 e2 O2.ex
  by_cases hlt : i < ys.length
  · refine .inr ⟨q1 i hlt, fun H' => ∃ B', Ex B1 B' ∧ Own F ((A, Cd Rk Rv (J (i + 1))) :: ω1) B' H', fun H' q => ⟨ys.length - (i + 1), by omega, rfl, hlt, q⟩, fun x H3 yl => ?_⟩
    obtain ⟨y, hy, q⟩ := q3 i hlt x H3 yl
    obtain ⟨Γb, ns, hg, hs', hek, hev⟩ := hb y (hk y (List.mem_of_getElem? hy))
    have hEw : EnvOk Γw (wipe σ (own.map (·.2))) B2 := (hw.env fx.nd rfl ok'.ix hE).mono (e1.trans e2)
    have fx' := fx.re hw.names
    obtain ⟨B3, e3, O3, hx⟩ : ∃ B3, Ex B2 B3 ∧ Own F ((A, Cd Rk Rv (J i)) :: ω1) B3 H3 ∧ (Rb y).p B3 x := by
      rcases q with ⟨rfl, q⟩ | ⟨T, o, hT, rfl, q⟩
      · exact ⟨B2, Ex.refl B2, O2, q⟩
      · obtain ⟨O4, e4⟩ := O2.new (o := o) hT
        exact ⟨_, e4, O4, q (O2.none_of hT).1⟩
    intro s H0 C cl fp
    refine hg.2 _ (fx'.blk s H0 scope C cl fp) _ B3 H3 x (hEw.mono e3) O3.ex hx _ fun σ2 hE2 on => ⟨wipe_only fx.nd hl ok'.ix hs' (by rw [hw.names] at on; exact on), ?_⟩
    have fxb : ∀ s H0 C cl fp, Fits ⟨c.M, relS scope c.sc, c.k, false, false⟩ (Γb.map (·.1)) (X.blk s H0 scope (compEnvC scope cl C X.env) fp) := fun s H0 C cl fp => (fx'.blk s H0 scope C cl fp).re hg.1
    dsimp only [cBlk, tYes]
    rw [if_pos rfl]
    intro s H0 C cl fp
    have O3' : Own F (ω1 ++ [(A, Cd Rk Rv (J i))]) B3 H3 := O3.perm (List.perm_append_singleton _ _).symm
    refine hek _ (fxb s H0 C cl fp) _ σ2 B3 H3 hE2 O3'.focus _ fun v B4 H4 e4 O4 hv => ?_
    have O4' := O3'.unfocus e4 O4 rfl
    intro s H0 C cl fp
    refine hev _ (fxb s H0 C cl fp) _ σ2 B4 H4 (hE2.mono e4) O4'.focus _ fun w B5 H5 e5 O5 hw' => ?_
    have O5' := (O4'.unfocus e5 O5 rfl).perm (List.perm_append_singleton _ _)
    obtain ⟨_, _, o, g1, us, rfl, g2⟩ := O5'.ow _ _ List.mem_cons_self
    rw [h1] at hv
    have hv : v = kV (fk (f y)) := hv
    subst hv
    refine ⟨us, fk (f y), rfl, g1, by have := hJl i; have := g2.len; have hz : ys.length < 16777216 := hz; show _ < 16777216; omega, B5, ((e2.trans e3).trans e4).trans e5, ?_⟩
    rw [hJ i y hy]
    exact O5'.swp .z ⟨_, rfl, drel_put h1 h2 hw' g2⟩
  · have e : i = ys.length := by omega
    subst e
    refine .inl ⟨q2, hQ A B2 H2 (e1.trans e2) ?_⟩
    have : J ys.length = dmk (ys.map fun y => (f y, g y)) := by show dmk _ = _; rw [List.take_length]
    rw [← this]; exact O2
end
end ZZ

set_option maxHeartbeats 2000000
/-! Y6: sorted of rows of numbers and texts. -/
namespace ZZ
open PySem PySem.Spec PyProof.Rows L2
open Evl (Ex)
/-! ### the order of keys -/
def ltKey : Key → Key → Bool
  | .inl i, .inl j => decide (i < j)
  | .inr s, .inr t => decide (s.cps.toList < t.cps.toList)
  | .inl _, .inr _ => true
  | .inr _, .inl _ => false
def ltK : List Key → List Key → Bool
  | [], [] => false
  | [], _ :: _ => true
  | _ :: _, [] => false
  | x :: xs, y :: ys => if x = y then ltK xs ys else ltKey x y
theorem str_ext {s t : Str} (h : s.cps.toList = t.cps.toList) : s = t := by
  cases s with | mk a => cases t with | mk b =>
  have h : a.toList = b.toList := h
  have : a = b := by rw [← Array.toArray_toList (xs := a), h]
  rw [this]
theorem ltKey_irr {x : Key} : ltKey x x = false := by
  cases x with
  | inl i => exact decide_eq_false (Int.lt_irrefl i)
  | inr s => exact decide_eq_false (List.lt_irrefl _)
theorem ltKey_asym {x y : Key} (h : ltKey x y = true) : ltKey y x = false := by
  cases x with
  | inl i =>
    cases y with
    | inl j => have := of_decide_eq_true h; exact decide_eq_false (by omega)
    | inr t => rfl
  | inr s =>
    cases y with
    | inl j => cases h
    | inr t => have := of_decide_eq_true h; exact decide_eq_false (List.lt_asymm this)
theorem ltKey_trans {x y z : Key} (h1 : ltKey x y = true) (h2 : ltKey y z = true) : ltKey x z = true := by
  cases x <;> cases y <;> cases z <;> first | rfl | (cases h1; done) | (cases h2; done) | skip
  · have a := of_decide_eq_true h1; have b := of_decide_eq_true h2; exact decide_eq_true (by omega)
  · have a := of_decide_eq_true h1; have b := of_decide_eq_true h2; exact decide_eq_true (List.lt_trans a b)
theorem ltKey_tri {x y : Key} (h1 : ltKey x y = false) (h2 : ltKey y x = false) : x = y := by
  cases x with
  | inl i =>
    cases y with
    | inl j => have a := of_decide_eq_false h1; have b := of_decide_eq_false h2; congr 1; omega
    | inr t => cases h1
  | inr s =>
    cases y with
    | inl j => cases h2
    | inr t =>
      have a := of_decide_eq_false h1; have b := of_decide_eq_false h2
      congr 1
      exact str_ext (List.le_antisymm (List.not_lt.mp b) (List.not_lt.mp a))
theorem ltK_asym : ∀ {x y : List Key}, ltK x y = true → ltK y x = false
  | [], [], h => by cases h
  | [], _ :: _, _ => rfl
  | _ :: _, [], h => by cases h
  | a :: x, b :: y, h => by
    unfold ltK at h ⊢
    by_cases e : a = b
    · rw [if_pos e] at h; rw [if_pos e.symm]; exact ltK_asym h
    · rw [if_neg e] at h; rw [if_neg (fun z => e z.symm)]; exact ltKey_asym h
theorem ltK_tri : ∀ {x y : List Key}, ltK x y = false → ltK y x = false → x = y
  | [], [], _, _ => rfl
  | [], _ :: _, h, _ => by cases h
  | _ :: _, [], _, h => by cases h
  | a :: x, b :: y, h1, h2 => by
    unfold ltK at h1 h2
    by_cases e : a = b
    · rw [if_pos e] at h1; rw [if_pos e.symm] at h2; rw [e, ltK_tri h1 h2]
    · rw [if_neg e] at h1; rw [if_neg (fun z => e z.symm)] at h2; exact absurd (ltKey_tri h1 h2) e
theorem ltK_trans : ∀ {x y z : List Key}, ltK x y = true → ltK y z = true → ltK x z = true
  | [], [], _, h, _ => by cases h
  | [], _ :: _, [], _, h => by cases h
  | [], _ :: _, _ :: _, _, _ => rfl
  | _ :: _, [], _, h, _ => by cases h
  | _ :: _, _ :: _, [], _, h => by cases h
  | a :: x, b :: y, c :: z, h1, h2 => by
    unfold ltK at h1 h2 ⊢
    by_cases e : a = b
    · rw [if_pos e] at h1
      subst e
      by_cases e2 : a = c
      · rw [if_pos e2] at h2 ⊢; exact ltK_trans h1 h2
      · rw [if_neg e2] at h2 ⊢; exact h2
    · rw [if_neg e] at h1
      by_cases e2 : b = c
      · subst e2; rw [if_neg e]; exact h1
      · rw [if_neg e2] at h2
        by_cases e3 : a = c
        · subst e3; have := ltKey_asym h1; rw [h2] at this; cases this
        · rw [if_neg e3]; exact ltKey_trans h1 h2
theorem ltK_swo {α : Type} (k : α → List Key) : SrtO.Swo (fun x y => ltK (k x) (k y)) := by
  refine ⟨fun x y h => ltK_asym h, fun x y z h1 h2 => ?_⟩
  -- z ≥ y ≥ x
  cases h : ltK (k z) (k x) with
  | false => rfl
  | true =>
    have h3 : ltK (k y) (k x) = false := h1
    have h4 : ltK (k z) (k y) = false := h2
    cases q : ltK (k x) (k y) with
    | true => have := ltK_trans h q; rw [h4] at this; cases this
    | false => have e := ltK_tri q h3; rw [e] at h; rw [h4] at h; cases h

/-! ### a tuple of keys in the heap -/
def KTok (v : Value) (k : Key) : Prop := match k with
  | .inl i => ∃ t, v = .int i t
  | .inr s => ∃ t, v = .str s t
theorem ktok_rel {k : Key} {v : Value} (h : RelV (kV k) v) : KTok v k := by
  cases k with
  | inl i => exact h
  | inr s => exact h
def KTs : List Value → List Key → Prop
  | [], [] => True
  | v :: vs, k :: ks => KTok v k ∧ KTs vs ks
  | _, _ => False
theorem kts_of : ∀ {ks : List Key} {us : List Value}, Vals (ks.map kV) us → KTs us ks
  | [], _, h => by cases h; exact trivial
  | _ :: _, _, h => by cases h with | cons r t => exact ⟨ktok_rel r, kts_of t⟩
def IsRow (h : Heap) (v : Value) (ks : List Key) : Prop := ∃ a o us n, v = .ref a ∧ h.get? a = some o ∧ o.cls = .type "tuple" ∧ o.data = .seq (List.toArray us) n ∧ KTs us ks
theorem IsRow.keeps {h h' : Heap} {v : Value} {ks : List Key} (p : IsRow h v ks) (k : ∀ b o, h.get? b = some o → o.cls = .type "tuple" → h'.get? b = some o) : IsRow h' v ks := by
  obtain ⟨a, o, us, n, e, ho, hc, hd, q⟩ := p
  exact ⟨a, o, us, n, e, k _ _ ho hc, hc, hd, q⟩
section
variable {prog : Program} {w : World} {A : Around} {E : Value → Shared → Prop} {s : Shared}
def SameKind : Key → Key → Prop
  | .inl _, .inl _ => True
  | .inr _, .inr _ => True
  | _, _ => False
theorem one_lt {b : Bool} {p q : Value} {x y : Key} {Q : Bool → Shared → Prop} (hp : KTok p x) (hq : KTok q y) (hk : SameKind x y) (h : Q (ltKey x y) s) : wpAny (model prog w) A (oneLt' b p q) Q (fun _ _ => False) s := by
  cases x with
  | inl i =>
    cases y with
    | inl j =>
      obtain ⟨t, rfl⟩ := hp
      obtain ⟨u, rfl⟩ := hq
      cases b with
      | true => exact oneLt_int h
      | false => exact PySem.W.kat_one _ _ (PyProof.Rows.lt_int h)
    | inr t => exact hk.elim
  | inr s' =>
    cases y with
    | inl j => exact hk.elim
    | inr t' =>
      obtain ⟨t, rfl⟩ := hp
      obtain ⟨u, rfl⟩ := hq
      cases b with
      | true => exact oneLt_str h
      | false => exact PySem.W.kat_one _ _ (PySem.P.lt_str h)
theorem eq_keys {p q : Value} {x y : Key} {C : Bool → Shared → Prop} (hp : KTok p x) (hq : KTok q y) (hk : SameKind x y) (h : C (decide (x = y)) s) : wpAny (model prog w) A (eqBool p q) C (fun _ _ => False) s := by
  cases x with
  | inl i =>
    cases y with
    | inl j =>
      obtain ⟨t, rfl⟩ := hp
      obtain ⟨u, rfl⟩ := hq
      refine SeqAt.EqAt.int_int i t j u prog w _ _ ?_
      have e : decide ((Sum.inl i : Key) = Sum.inl j) = (i == j) := by
        by_cases z : i = j
        · rw [z]; simp
        · rw [decide_eq_false (fun y => z (Sum.inl.inj y))]; exact (beq_eq_false_iff_ne.mpr z).symm
      rw [e] at h
      exact h
    | inr t => exact hk.elim
  | inr s' =>
    cases y with
    | inl j => exact hk.elim
    | inr t' =>
      obtain ⟨t, rfl⟩ := hp
      obtain ⟨u, rfl⟩ := hq
      refine SeqAt.EqAt.str_str s' t t' u prog w _ _ ?_
      have e : decide ((Sum.inr s' : Key) = Sum.inr t') = (s' == t') := by
        by_cases z : s' = t'
        · rw [z]; simp
        · rw [decide_eq_false (fun y => z (Sum.inr.inj y))]; exact (beq_eq_false_iff_ne.mpr z).symm
      rw [e] at h
      exact h
def Kinds : List Key → List Key → Prop
  | [], [] => True
  | x :: xs, y :: ys => SameKind x y ∧ Kinds xs ys
  | _, _ => False
theorem row_lex {b : Bool} {Q : Bool → Shared → Prop} : ∀ {us vs : List Value} {xs ys : List Key} {i : Nat}, KTs us xs → KTs vs ys → Kinds xs ys → Q (ltK xs ys) s → PySem.W.KatLex prog w A b (decide ((List.toArray us).size < (List.toArray vs).size)) Q (us.zip vs) i s := by
  have key : ∀ {us vs : List Value} {xs ys : List Key} {i : Nat} {fin : Bool}, fin = false → KTs us xs → KTs vs ys → Kinds xs ys → Q (ltK xs ys) s → PySem.W.KatLex prog w A b fin Q (us.zip vs) i s := by
    intro us
    induction us with
    | nil =>
      intro vs xs ys i fin hf h1 h2 h3 h
      cases xs with
      | nil =>
        cases ys with
        | nil => cases vs with
          | nil => subst hf; exact PySem.W.kat_nil h
          | cons _ _ => exact h2.elim
        | cons _ _ => exact h3.elim
      | cons _ _ => exact h1.elim
    | cons u us ih =>
      intro vs xs ys i fin hf h1 h2 h3 h
      cases xs with
      | nil => exact h1.elim
      | cons x xs =>
        cases ys with
        | nil => exact h3.elim
        | cons y ys =>
          cases vs with
          | nil => exact h2.elim
          | cons v vs =>
            refine PySem.W.kat_cons (eq_keys h1.1 h2.1 h3.1 ?_)
            refine PySem.W.kat_go (fun e1 => ?_) (fun e1 => ?_)
            · have e : x = y := of_decide_eq_true e1
              refine PySem.W.kat_yes (ih hf h1.2 h2.2 h3.2 ?_)
              unfold ltK at h
              rw [if_pos e] at h
              exact h
            · have e : ¬ x = y := of_decide_eq_false e1
              refine PySem.W.kat_no (one_lt h1.1 h2.1 h3.1 ?_)
              unfold ltK at h
              rw [if_neg e] at h
              exact h
  have len : ∀ {us : List Value} {xs : List Key}, KTs us xs → us.length = xs.length := by
    intro us
    induction us with
    | nil => intro xs h; cases xs with
      | nil => rfl
      | cons _ _ => exact h.elim
    | cons u us ih => intro xs h; cases xs with
      | nil => exact h.elim
      | cons _ _ => simp [ih h.2]
  have klen : ∀ {xs ys : List Key}, Kinds xs ys → xs.length = ys.length := by
    intro xs
    induction xs with
    | nil => intro ys h; cases ys with
      | nil => rfl
      | cons _ _ => exact h.elim
    | cons u us ih => intro xs h; cases xs with
      | nil => exact h.elim
      | cons _ _ => simp [ih h.2]
  intro us vs xs ys i h1 h2 h3 h
  refine key ?_ h1 h2 h3 h
  rw [List.size_toArray, List.size_toArray, len h1, len h2, klen h3]
  exact decide_eq_false (Nat.lt_irrefl _)
theorem rows_cmp {vs : List Value} {k : Value → List Key} (hp : ∀ v ∈ vs, IsRow s.heap v (k v)) (hk : ∀ v ∈ vs, ∀ u ∈ vs, Kinds (k v) (k u)) (b : Bool) : SrtO.Cmp prog w A s (tuples' b) (fun p => p.1 ∈ vs) (SrtO.lt2 fun v u => ltK (k v) (k u)) := by
  intro p q hm hm'
  have h1 := hp _ hm
  have h2 := hp _ hm'
  have h3 := hk _ hm _ hm'
  show wpAny (model prog w) A (keyLt' (tuples' b) p.1 q.1) (fun r s' => s' = s ∧ r = ltK (k p.1) (k q.1)) (fun _ _ => False) s
  generalize k p.1 = xs at h1 h3 ⊢
  generalize k q.1 = ys at h2 h3 ⊢
  obtain ⟨a, o, us, n, e, ho, hc, hd, hu⟩ := h1
  obtain ⟨a', o', us', n', e', ho', hc', hd', hu'⟩ := h2
  rw [e, e']
  exact PySem.W.kat_lt ho hd ho' hd' (row_lex hu hu' h3 ⟨rfl, rfl⟩)
theorem rows_firsts {h : Heap} {k : Value → List Key} {isI : Bool} : ∀ {vs : List Value}, (∀ v ∈ vs, IsRow h v (k v)) → (∀ v ∈ vs, ∃ x r, k v = x :: r ∧ (match x with | .inl _ => isI = true | .inr _ => isI = false)) → ∃ fs : List Value, PySem.W.KatTups h vs fs ∧ fs.length = vs.length ∧ ∀ f ∈ fs, (match isI with | true => ∃ x t, f = Value.int x t | false => ∃ x t, f = Value.str x t)
  | [], _, _ => ⟨[], PySem.W.KatTups.nil, rfl, fun _ hm => by simp at hm⟩
  | v :: vs, hp, hq => by
    obtain ⟨fs, h1, h2, h3⟩ := rows_firsts (vs := vs) (fun v' hm => hp v' (List.mem_cons_of_mem _ hm)) (fun v' hm => hq v' (List.mem_cons_of_mem _ hm))
    obtain ⟨a, o, us, n, e, ho, hc, hd, hu⟩ := hp v (List.mem_cons_self ..)
    obtain ⟨x, r, e2, hx⟩ := hq v (List.mem_cons_self ..)
    rw [e2] at hu
    subst e
    cases us with
    | nil => exact hu.elim
    | cons u us =>
      refine ⟨u :: fs, PySem.W.KatTups.cons ho hc hd (by simp) h1, by rw [List.length_cons, List.length_cons, h2], fun f hm => ?_⟩
      rcases List.mem_cons.mp hm with rfl | hm
      · have := hu.1
        cases x with
        | inl i => have hx : isI = true := hx; subst hx; obtain ⟨t, rfl⟩ := this; exact ⟨i, t, rfl⟩
        | inr z => have hx : isI = false := hx; subst hx; obtain ⟨t, rfl⟩ := this; exact ⟨z, t, rfl⟩
      · exact h3 f hm
theorem rows_sortable {a : Addr} {vs : List Value} {k : Value → List Key} {isI : Bool} (h0 : 0 < vs.length) (hp : ∀ v ∈ vs, IsRow s.heap v (k v)) (hk : ∀ v ∈ vs, ∀ u ∈ vs, Kinds (k v) (k u)) (hq : ∀ v ∈ vs, ∃ x r, k v = x :: r ∧ (match x with | .inl _ => isI = true | .inr _ => isI = false)) (ha : ∀ o, s.heap.get? a = some o → o.cls ≠ .type "tuple") : SrtO.SortableO prog w A s a vs fun v u => ltK (k v) (k u) := by
  intro h' keep
  have hp' : ∀ v ∈ vs, IsRow h' v (k v) := fun v hm => (hp v hm).keeps fun b o e c => keep b o (fun z => by subst z; exact ha o e c) e
  obtain ⟨fs, h1, h2, h3⟩ := rows_firsts (isI := isI) hp' hq
  refine ⟨tuples' true, fun Q E hq' => ?_, rows_cmp hp' hk true⟩
  cases isI with
  | true =>
    refine PySem.W.kat_kind (T := .type "int") h1 (by omega) (fun f hm => ?_) (by rfl) ?_
    · obtain ⟨x, t, rfl⟩ := h3 f hm
      exact PySem.W.Looks.now
    · have e : (Value.type "int" != Value.type "tuple") = true := by first | decide +kernel | rfl | decide
      rw [e]; exact hq'
  | false =>
    refine PySem.W.kat_kind (T := .type "str") h1 (by omega) (fun f hm => ?_) (by rfl) ?_
    · obtain ⟨x, t, rfl⟩ := h3 f hm
      exact PySem.W.Looks.now
    · have e : (Value.type "str" != Value.type "tuple") = true := by first | decide +kernel | rfl | decide
      rw [e]; exact hq'
end
/-- sorted(xs), rows of numbers and texts -/
def rSortedF (K : PySem.W.Frag) : List V → Hp → VK → Prop := fun vs H Q => ∃ (a : Addr) (xs : List V) (k : V → List Key) (isI : Bool), vs = [V.ref a] ∧ SqL K H a xs ∧ (∀ x ∈ xs, ∃ t, x = V.ref t ∧ H t = some (.tup ((k x).map kV))) ∧ (∀ v ∈ xs, ∀ u ∈ xs, Kinds (k v) (k u)) ∧
  (∀ v ∈ xs, ∃ x r, k v = x :: r ∧ (match x with | .inl _ => isI = true | .inr _ => isI = false)) ∧ ∀ ys p, ys.Perm xs → ys.Pairwise (fun x y => ltK (k y) (k x) = false) → H p = none → Q (.ref p) (upd H p (.lst ys))
theorem cr_sortedF {X : Cx} : CallR X (.builtin "sorted") (rSortedF X.K) := by
  intro pins s σ H vs us Q I r h
  obtain ⟨a, xs, k, isI, rfl, hs, hx, hk, hq, q⟩ := h
  obtain ⟨its, rv, hl, hz⟩ := I.list hs
  obtain ⟨u, rfl, ru⟩ := vals1 r
  obtain rfl : u = Value.ref a := ru
  obtain ⟨e1, e2⟩ := refs_back rv fun x m => by
    obtain ⟨t, e, _⟩ := hx x m
    exact ⟨t, e⟩
  have inx : ∀ v ∈ its, backV v ∈ xs := fun v hv => by rw [e1]; exact List.mem_map.mpr ⟨_, hv, rfl⟩
  have row : ∀ v ∈ its, IsRow s.heap v (k (backV v)) := fun v hv => by
    obtain ⟨t, rfl⟩ := e2 v hv
    obtain ⟨t', e, ht⟩ := hx _ (inx _ hv)
    cases e
    obtain ⟨_, its2, r2, o, ho, hc, n, hd⟩ := I.hok _ _ ht
    exact ⟨t, o, its2, n, rfl, ho, hc, hd, kts_of r2⟩
  refine SrtO.sorted_ord (ltv := fun v u => ltK (k (backV v)) (k (backV u))) (ltK_swo _) hl.isList (by rw [← rv.length]; exact hz) (fun h2 h₁ a' ha kk => ?_) fun out h1 h2 => ?_
  · refine rows_sortable (s := { s with heap := h₁ }) (isI := isI) (by omega) (fun v hm => (row v hm).keeps fun b o e _ => (kk b o e).2) (fun v hv u hu => hk _ (inx v hv) _ (inx u hu)) (fun v hv => hq _ (inx v hv)) fun o e => ?_
    have e' : some o = some (seqObj "list" its.toArray 0) := e.symm.trans ha
    cases e'
    intro c
    injection c with c
    exact absurd c (by decide)
  · have h3 : ∀ u ∈ out, ∃ a, u = Value.ref a := fun u hu => e2 u (h2.perm.mem_iff.mp hu)
    obtain ⟨ep, he'⟩ := PyProof.Rows.sortedAll_at s.heap its out.toArray
    have hp : (out.map backV).Perm xs := by rw [e1]; exact h2.perm.map _
    have hlen : (out.map backV).length ≤ sizeLine := by rw [hp.length_eq]; exact hz
    refine ⟨.ref _, upd H (s.heap.objs.size + 1) (.lst (out.map backV)), I.laid (t' := s.toks) (fun _ _ => PyProof.Rows.sortedAll_old) (Nat.le_succ _) ⟨hlen, out, ep, vals_back h3, he'⟩, rfl, q _ _ hp ?_ (I.hok.fresh (Nat.le_succ _))⟩
    exact List.pairwise_map.mpr (h1.imp fun {x y} h => h)
end ZZ

set_option maxHeartbeats 2000000
/-! Y7: enumerate, zip over lists and tuples that are tracked or the module's; constants of the module. -/
namespace ZZ
open PySem PySem.Spec PyProof.Rows L2
open Evl (Ex)
def SqB (K : PySem.W.Frag) (bb : Bool) (H : Hp) (a : Addr) (xs : List V) : Prop := match bb with
  | true => SqL K H a xs
  | false => SqT K H a xs
section
variable {X : Cx} {pins : List (Addr × Obj)} {σ : L2.St} {H : Hp} {s : Shared} {bb b2 : Bool} {a b : Addr} {xs ys : List V}
theorem src_og (I : Inv X pins σ H s) (h : SqB X.K bb H a xs) : ∃ its : List Value, Vals xs its ∧ ObB bb s.heap a its.toArray ∧ xs.length ≤ sizeLine := by
  cases bb with
  | true =>
    obtain ⟨its, r, p, z⟩ := I.list h
    exact ⟨its, r, p.isList, z⟩
  | false =>
    obtain ⟨its, r, p, z⟩ := I.tuple h
    exact ⟨its, r, p, z⟩
theorem sqB_inj (I : Inv X pins σ H s) (h : SqB X.K bb H a xs) (h' : SqB X.K bb H a ys) : xs = ys := by
  cases bb with
  | true => exact I.list_inj h h'
  | false => exact I.tuple_inj h h'
theorem sqB_ne {c : Addr} (I : Inv X pins σ H s) (f : FpOk X pins H c) (h : SqB X.K bb H a xs) : c ≠ a := by
  rintro rfl
  have no : ∀ o, ¬ Rd H c o := fun o h => by
    rcases h with h | ⟨_, h⟩
    · rw [f.1] at h; cases h
    · rw [f.1] at h; cases h
  have kk : ∀ o, X.K.lookup c = some o → False := fun o h => by
    have e := I.ok.mod.kin c o h
    rcases f.2.2.2.1 with z | z
    · exact I.ok.noex c o e z
    · exact absurd (Heap.lt_size (I.ok.bs c o e).1) (Nat.not_lt.mpr z)
  cases bb with
  | true =>
    rcases h with h | ⟨o, _, _, h, _⟩
    · exact no _ h
    · exact kk o h
  | false =>
    rcases h with h | ⟨o, _, _, h, _⟩
    · exact no _ h
    · exact kk o h
end

/-! ### enumerate -/
/-- one new pair a turn: the place, the item -/
def IteG (K : PySem.W.Frag) (bb : Bool) (a : Addr) : It :=
  ⟨fun i H => ∃ (xs : List V) (x : V), SqB K bb H a xs ∧ xs[i]? = some x, fun i H v H' => ∃ T x, v = .ref T ∧ H T = none ∧ H' = upd H T (.tup [.int (i : Nat), x]) ∧ ∀ xs, SqB K bb H a xs → xs[i]? = some x,
    fun i H => ∃ xs : List V, SqB K bb H a xs ∧ xs.length = i⟩
theorem turn_enumG {P : Program} {w : World} {K : PySem.W.Frag} {elts : List Expr} {kk : Nat} {tpos : Pos} (bb : Bool) (a e it : Addr) :
    Turn P w K (.Tuple elts kk tpos) (IteG K bb a) [e, it] e (fun i h => (∃ old, IsEnum h e it ((i : Nat) : Int) old) ∧ ItB bb h it a i ∧ e ≠ it) where
  mem := List.mem_cons_self
  obj := fun i h st b hb => by
    obtain ⟨⟨old, he⟩, hit, _⟩ := st
    rcases (show b = e ∨ b = it by simpa using hb) with rfl | rfl
    · exact ⟨_, he, fun v q => nomatch q⟩
    · obtain ⟨o, h1, _, _, h2⟩ := hit.rec'
      exact ⟨o, h1, h2⟩
  keep := fun i h h' st k => ⟨st.1.imp fun old he => k e (by simp) _ he, st.2.1.move fun o q => k it (by simp) o q, st.2.2⟩
  item := by
    intro X hP hw hK hc i pins s σ H E I hf st hg
    subst hP hw hK
    obtain ⟨⟨old, he⟩, hit, hne⟩ := st
    obtain ⟨xs, x, hq, hx⟩ := hg
    obtain ⟨its, rv, ob, hz⟩ := src_og I hq
    obtain ⟨u, hu, ru⟩ := rv.get hx
    have hel : e < s.heap.objs.size := Heap.lt_size he
    have hil : it < s.heap.objs.size := let ⟨_, q, _⟩ := hit.rec'; Heap.lt_size q
    have hai : a ≠ it := hit.apart ob
    have hea : e ≠ a := by
      obtain ⟨o, q1, q2⟩ := ob.rec'
      rintro rfl
      rw [he] at q1; cases q1
      rcases q2 with q | q
      · exact absurd (show Value.type "enumerate" = Value.type "list" from q) (by decide +kernel)
      · exact absurd (show Value.type "enumerate" = Value.type "tuple" from q) (by decide +kernel)
    have hi : i < its.toArray.size := by
      have := (List.getElem?_eq_some_iff.mp hu).1
      simpa using this
    have D := draws_B (prog := X.prog) (w := X.w) (A := X.A.in1) bb (I.ok.hd hc) hai its.toArray
    refine wpAny_pyNext_enum_itemD D he ⟨hit, ob⟩ hi hne (by simp [hne, hea]) fun x' h' tk hx' ho st' hT hsz hk => ?_
    have ex : x' = u := by
      have q : its.toArray[i]? = some x' := hx'
      rw [show its.toArray[i]? = some u by simpa using hu] at q
      exact (Option.some.inj q).symm
    subst ex
    refine ⟨_, rfl, wpAny_letOwnedTupleGo_enum (s := { s with heap := h', toks := tk + 1 }) ho fun h'' he' sb => ?_⟩
    have hT2 : h''.get? s.heap.objs.size = some { cls := .type "tuple", data := .seq #[.int i tk, x'] } := (sb.2 _ (Nat.ne_of_gt hel)).trans hT
    have new : ObjOk X.prog X.w (upd H s.heap.objs.size (.tup [.int (i : Nat), x])) h'' s.heap.objs.size (.tup [.int (i : Nat), x]) :=
      ⟨(show 2 ≤ sizeLine by decide), [.int i tk, x'], .cons ⟨_, rfl⟩ (.cons ru .nil), ⟨_, hT2, rfl, _, rfl⟩⟩
    have I1 : Inv X pins σ (upd H s.heap.objs.size (.tup [.int (i : Nat), x])) { s with heap := h'', toks := tk + 1 } :=
      I.turnedNew (ch := [e, it]) (fun b o hb q => (sb.2 b (fun z => hb (by rw [z]; simp))).trans (hk b o (fun z => hb (by rw [z]; simp)) (fun z => hb (by rw [z]; simp)) q)) hf (Nat.le_refl _) new
    refine ⟨.ref s.heap.objs.size, _, I1, rfl, ⟨_, x, rfl, I.hok.fresh (Nat.le_refl _), rfl, fun ys hy => by rw [sqB_inj I hy hq]; exact hx⟩, ⟨⟨x', ?_⟩, st'.1.move fun o q => (sb.2 it (Ne.symm hne)).trans q, hne⟩, fun b hb => ?_⟩
    · rw [show ((i + 1 : Nat) : Int) = (i : Int) + 1 by omega]; exact he'
    · have hb' : b < s.heap.objs.size := by
        rcases (show b = e ∨ b = it by simpa using hb) with z | z <;> rw [z]
        · exact hel
        · exact hil
      rw [upd_ne (Nat.ne_of_lt hb')]
      exact (hf b hb).1
  done := by
    intro X hP hw hK hc i pins s σ H E I hf st hg
    subst hP hw hK
    obtain ⟨⟨old, he⟩, hit, hne⟩ := st
    obtain ⟨xs, hq, hx⟩ := hg
    obtain ⟨its, rv, ob, hz⟩ := src_og I hq
    obtain ⟨f0, f1, f2, f3, f4, f5⟩ := hf it (by simp)
    have D := draws_B (prog := X.prog) (w := X.w) (A := X.A.in1) bb (I.ok.hd hc) (hit.apart ob) its.toArray
    have hn : its.toArray.size = i := by rw [List.size_toArray, ← rv.length]; exact hx
    exact wpAny_pyNext_enum_endD D he ⟨by rw [hn]; exact hit, ob⟩ fun h' eb => ⟨rfl, I.turned (t' := s.toks) (fun b o hb q => eb b o hb q) f0 f1 f3 f4 f5⟩
  self := fun A i s Q E st h => let ⟨⟨_, he⟩, _⟩ := st; wpAny_pyIter_enum he h

/-- enumerate(v) with the start left out -/
def iEnumG (K : PySem.W.Frag) (bb : Bool) (ta : TA) : TI := fun σ H R => ta σ H fun vs H1 => ∃ a xs, vs = [.ref a] ∧ SqB K bb H1 a xs ∧ R (IteG K bb a) H1
theorem pi_enumG {X : Cx} {e : Expr} {ta : TA} {p pos tpos : Pos} {elts : List Expr} {kk : Nat} (bb : Bool) (hg : Gl X "enumerate") (hm : X.mg "enumerate" = none) (ha : PA X [e] ta) (hs : starEach [e] X.env = [(false, eval e X.env)]) :
    PI X (.Tuple elts kk tpos) (.Call (.Name "enumerate" p) [e] [] pos) (iEnumG X.K bb ta) := by
  refine ⟨fun pins s σ H R I h => Call_ (ld_blt I hg hm boot_enumerate (PyProof.Rows.callWith_type1 (L2.thn (ha.run pos pins s σ H _ I h) fun us s1 ⟨vs, H1, I1, r1, a, xs, ex, hq, q⟩ => ?_) hs rfl))⟩
  subst ex
  obtain ⟨u, rfl, r⟩ := Vals.one r1
  cases (show u = Value.ref a from r)
  obtain ⟨its, rv, ob, hz⟩ := src_og I1 hq
  refine call_enum1 (begins_B bb a its.toArray) ob fun h' he hit hk => wpAny_pyIter_enum he ?_
  have I2 : Inv X pins σ H1 { s1 with heap := h' } := I1.kept (t' := s1.toks) hk
  refine ⟨s1.heap.objs.size + 1, [s1.heap.objs.size + 1, s1.heap.objs.size], _, _, H1, rfl, I2, turn_enumG bb a (s1.heap.objs.size + 1) s1.heap.objs.size, ⟨⟨.none, he⟩, ItB.of_get hit, Nat.succ_ne_self _⟩, fun b hb => ?_, q⟩
  have hle : s1.heap.objs.size ≤ b := by
    rcases (show b = s1.heap.objs.size + 1 ∨ b = s1.heap.objs.size by simpa using hb) with z | z <;> rw [z]
    · exact Nat.le_add_right _ _
    · exact Nat.le_refl _
  exact I1.fpOk hle (I1.hok.fresh hle)

/-! ### zip of two -/
def ItzG (K : PySem.W.Frag) (b1 b2 : Bool) (a b : Addr) : It :=
  ⟨fun i H => ∃ (xs ys : List V) (x y : V), SqB K b1 H a xs ∧ SqB K b2 H b ys ∧ xs[i]? = some x ∧ ys[i]? = some y,
    fun i H v H' => ∃ T x y, v = .ref T ∧ H T = none ∧ H' = upd H T (.tup [x, y]) ∧ (∀ xs, SqB K b1 H a xs → xs[i]? = some x) ∧ ∀ ys, SqB K b2 H b ys → ys[i]? = some y,
    fun i H => ∃ xs ys : List V, SqB K b1 H a xs ∧ SqB K b2 H b ys ∧ i ≤ xs.length ∧ i ≤ ys.length ∧ (i = xs.length ∨ i = ys.length)⟩
structure ZAq (z TI TO i1 i2 : Addr) : Prop where
  TIz : TI ≠ z
  TOz : TO ≠ z
  TITO : TI ≠ TO
  TIi1 : TI ≠ i1
  TIi2 : TI ≠ i2
  zi1 : z ≠ i1
  zi2 : z ≠ i2
  Ti1 : TO ≠ i1
  Ti2 : TO ≠ i2
  ii : i1 ≠ i2
theorem turn_zipG {P : Program} {w : World} {K : PySem.W.Frag} {elts : List Expr} {kk : Nat} {tpos : Pos} (b1 b2 : Bool) {a b z TI TO i1 i2 : Addr} (Z : ZAq z TI TO i1 i2) :
    Turn P w K (.Tuple elts kk tpos) (ItzG K b1 b2 a b) [z, TI, TO, i1, i2] z (fun i h => IsZip h z TI TO .none ∧ IsTupOf2 h TI (.ref i1) (.ref i2) ∧ (∃ x y, IsTupOf2 h TO x y) ∧ ItB b1 h i1 a i ∧ ItB b2 h i2 b i) where
  mem := List.mem_cons_self
  obj := fun i h st c hc => by
    obtain ⟨hz, hTI, ⟨x, y, hTO⟩, h1, h2⟩ := st
    rcases (show c = z ∨ c = TI ∨ c = TO ∨ c = i1 ∨ c = i2 by simpa using hc) with rfl | rfl | rfl | rfl | rfl
    · exact ⟨_, hz, fun v q => nomatch q⟩
    · exact ⟨_, hTI, fun v q => nomatch q⟩
    · exact ⟨_, hTO, fun v q => nomatch q⟩
    · obtain ⟨o, q1, _, _, q2⟩ := h1.rec'; exact ⟨o, q1, q2⟩
    · obtain ⟨o, q1, _, _, q2⟩ := h2.rec'; exact ⟨o, q1, q2⟩
  keep := fun i h h' st k => by
    obtain ⟨hz, hTI, ⟨x, y, hTO⟩, h1, h2⟩ := st
    exact ⟨k z (by simp) _ hz, k TI (by simp) _ hTI, ⟨x, y, k TO (by simp) _ hTO⟩, h1.move fun o q => k i1 (by simp) o q, h2.move fun o q => k i2 (by simp) o q⟩
  item := by
    intro X hP hw hK hc i pins s σ H E I hf st hg
    subst hP hw hK
    obtain ⟨hz, hTI, ⟨x0, y0, hTO⟩, h1, h2⟩ := st
    obtain ⟨xs, ys, x, y, hqx, hqy, hx, hy⟩ := hg
    obtain ⟨its, rv, ob1, _⟩ := src_og I hqx
    obtain ⟨its2, rv2, ob2, _⟩ := src_og I hqy
    obtain ⟨u, hu, ru⟩ := rv.get hx
    obtain ⟨u2, hu2, ru2⟩ := rv2.get hy
    have trk : ∀ {c d : Addr} {bb : Bool} {l : List V}, c ∈ [z, TI, TO, i1, i2] → SqB X.K bb H d l → c ≠ d := fun hm hd => sqB_ne I (hf _ hm) hd
    have S : ZipSep2 z TI TO i1 i2 [i1, a] [i2, b] := ⟨Z.TIz, Z.TOz, Z.TITO, Z.TIi1, by simp, by simp [Z.zi1, trk (c := z) (by simp) hqx], by simp [Z.Ti1, trk (c := TO) (by simp) hqx], Z.TIi2, by simp, by simp [Z.zi2, trk (c := z) (by simp) hqy], by simp [Z.Ti2, trk (c := TO) (by simp) hqy],
      by simp [Z.ii, trk (c := i1) (by simp) hqy], by simp [Ne.symm Z.ii, trk (c := i2) (by simp) hqx]⟩
    have D1 := draws_B (prog := X.prog) (w := X.w) (A := X.A.in1) b1 (I.ok.hd hc) (Ne.symm (trk (c := i1) (by simp) hqx)) its.toArray
    have D2 := draws_B (prog := X.prog) (w := X.w) (A := X.A.in1) b2 (I.ok.hd hc) (Ne.symm (trk (c := i2) (by simp) hqy)) its2.toArray
    have l1 : i < its.toArray.size := by simpa using (List.getElem?_eq_some_iff.mp hu).1
    have l2 : i < its2.toArray.size := by simpa using (List.getElem?_eq_some_iff.mp hu2).1
    have hzl : z < s.heap.objs.size := Heap.lt_size hz
    refine wpAny_pyNext_zipD2_item S D1 D2 hz hTI hTO ⟨h1, ob1⟩ ⟨h2, ob2⟩ l1 l2 fun x' y' h' tk q1 q2 z' TO' h1' h2' hT hsz hk => ?_
    have ex : x' = u := by
      have q : its.toArray[i]? = some x' := q1
      rw [show its.toArray[i]? = some u by simpa using hu] at q
      exact (Option.some.inj q).symm
    have ey : y' = u2 := by
      have q : its2.toArray[i]? = some y' := q2
      rw [show its2.toArray[i]? = some u2 by simpa using hu2] at q
      exact (Option.some.inj q).symm
    subst ex ey
    refine ⟨_, rfl, wpAny_letOwnedTupleGo_zip (s := { s with heap := h', toks := tk }) z' fun h'' z'' sb => ?_⟩
    have hT2 : h''.get? s.heap.objs.size = some { cls := .type "tuple", data := .seq #[x', y'] } := (sb.2 _ (Nat.ne_of_gt hzl)).trans hT
    have new : ObjOk X.prog X.w (upd H s.heap.objs.size (.tup [x, y])) h'' s.heap.objs.size (.tup [x, y]) := ⟨(show 2 ≤ sizeLine by decide), [x', y'], .cons ru (.cons ru2 .nil), ⟨_, hT2, rfl, _, rfl⟩⟩
    have I1 : Inv X pins σ (upd H s.heap.objs.size (.tup [x, y])) { s with heap := h'', toks := tk } :=
      I.turnedNew (ch := [z, TI, TO, i1, i2]) (fun c o hb q => (sb.2 c (fun r => hb (by rw [r]; simp))).trans (hk c o (fun r => hb (by rw [r]; simp)) (fun r => hb (by rw [r]; simp)) (fun r => hb (by rw [r]; simp)) (fun r => hb (by rw [r]; simp)) q)) hf (Nat.le_refl _) new
    refine ⟨.ref s.heap.objs.size, _, I1, rfl, ⟨_, x, y, rfl, I.hok.fresh (Nat.le_refl _), rfl, fun l hl => by rw [sqB_inj I hl hqx]; exact hx, fun l hl => by rw [sqB_inj I hl hqy]; exact hy⟩,
      ⟨z'', (sb.2 _ Z.TIz).trans (hk _ _ Z.TIz Z.TITO Z.TIi1 Z.TIi2 hTI), ⟨x', y', (sb.2 _ Z.TOz).trans TO'⟩, h1'.1.move fun o q => (sb.2 _ (Ne.symm Z.zi1)).trans q, h2'.1.move fun o q => (sb.2 _ (Ne.symm Z.zi2)).trans q⟩, fun c hcm => ?_⟩
    have hlt : c < s.heap.objs.size := by
      rcases (show c = z ∨ c = TI ∨ c = TO ∨ c = i1 ∨ c = i2 by simpa using hcm) with q | q | q | q | q <;> rw [q]
      · exact hzl
      · exact Heap.lt_size hTI
      · exact Heap.lt_size hTO
      · exact let ⟨_, e1, _⟩ := h1.rec'; Heap.lt_size e1
      · exact let ⟨_, e1, _⟩ := h2.rec'; Heap.lt_size e1
    rw [upd_ne (Nat.ne_of_lt hlt)]
    exact (hf c hcm).1
  done := by
    intro X hP hw hK hc i pins s σ H E I hf st hg
    subst hP hw hK
    obtain ⟨hz, hTI, ⟨x0, y0, hTO⟩, h1, h2⟩ := st
    obtain ⟨xs, ys, hqx, hqy, le1, le2, hend⟩ := hg
    obtain ⟨its, rv, ob1, _⟩ := src_og I hqx
    obtain ⟨its2, rv2, ob2, _⟩ := src_og I hqy
    have trk : ∀ {c d : Addr} {bb : Bool} {l : List V}, c ∈ [z, TI, TO, i1, i2] → SqB X.K bb H d l → c ≠ d := fun hm hd => sqB_ne I (hf _ hm) hd
    have S : ZipSep2 z TI TO i1 i2 [i1, a] [i2, b] := ⟨Z.TIz, Z.TOz, Z.TITO, Z.TIi1, by simp, by simp [Z.zi1, trk (c := z) (by simp) hqx], by simp [Z.Ti1, trk (c := TO) (by simp) hqx], Z.TIi2, by simp, by simp [Z.zi2, trk (c := z) (by simp) hqy], by simp [Z.Ti2, trk (c := TO) (by simp) hqy],
      by simp [Z.ii, trk (c := i1) (by simp) hqy], by simp [Ne.symm Z.ii, trk (c := i2) (by simp) hqx]⟩
    have D1 := draws_B (prog := X.prog) (w := X.w) (A := X.A.in1) b1 (I.ok.hd hc) (Ne.symm (trk (c := i1) (by simp) hqx)) its.toArray
    have D2 := draws_B (prog := X.prog) (w := X.w) (A := X.A.in1) b2 (I.ok.hd hc) (Ne.symm (trk (c := i2) (by simp) hqy)) its2.toArray
    have e1 := rv.length
    have e2 := rv2.length
    exact wpAny_pyNext_zipD2_end S D1 D2 hz hTI hTO ⟨h1, ob1⟩ ⟨h2, ob2⟩ (by simp; omega) (by simp; omega) (by simp; omega) fun h' tk hk => ⟨rfl, I.turnedL (ch := [z, TI, TO, i1, i2]) (fun c o hb q =>
      hk c o (fun r => hb (by rw [r]; simp)) (fun r => hb (by rw [r]; simp)) (fun r => hb (by rw [r]; simp)) (fun r => hb (by rw [r]; simp)) q) hf⟩
  self := fun A i s Q E st h => wpAny_pyIter_zip st.1 h
def iZipG (K : PySem.W.Frag) (b1 b2 : Bool) (ta : TA) : TI := fun σ H R => ta σ H fun vs H1 => ∃ a b xs ys, vs = [.ref a, .ref b] ∧ SqB K b1 H1 a xs ∧ SqB K b2 H1 b ys ∧ R (ItzG K b1 b2 a b) H1
theorem pi_zipG {X : Cx} {e e2 : Expr} {ta : TA} {p pos tpos : Pos} {elts : List Expr} {kk : Nat} (b1 b2 : Bool) (hg : Gl X "zip") (hm : X.mg "zip" = none) (ha : PA X [e, e2] ta)
    (hs : starEach [e, e2] X.env = (false, eval e X.env) :: starEach [e2] X.env) (hpl : (backTo pos (starEach [e2] X.env)).any (·.1) = false) : PI X (.Tuple elts kk tpos) (.Call (.Name "zip" p) [e, e2] [] pos) (iZipG X.K b1 b2 ta) := by
  refine ⟨fun pins s σ H R I h => Call_ (ld_blt I hg hm PyProof.Rows.boot_zip (PyProof.Rows.callWith_type1 (L2.thn (ha.run pos pins s σ H _ I h) fun us s1 ⟨vs, H1, I1, r1, a, b, xs, ys, ex, hqx, hqy, q⟩ => ?_) hs hpl))⟩
  subst ex
  obtain ⟨u, v, rfl, r, r'⟩ := Vals.two r1
  cases (show u = Value.ref a from r)
  cases (show v = Value.ref b from r')
  obtain ⟨its, rv, ob1, _⟩ := src_og I1 hqx
  obtain ⟨its2, rv2, ob2, _⟩ := src_og I1 hqy
  refine zip_begins2 (begins_B b1 a its.toArray) (begins_B b2 b its2.toArray) ob1 ob2 fun h' hz hTI hTO h1 h2 hsz hk => wpAny_pyIter_zip hz ?_
  have I2 : Inv X pins σ H1 { s1 with heap := h' } := I1.kept (t' := s1.toks) hk
  have nes : ∀ m n : Nat, m ≠ n → s1.heap.objs.size + m ≠ s1.heap.objs.size + n := fun m n h q => h (Nat.add_left_cancel q)
  refine ⟨s1.heap.objs.size + 4, [s1.heap.objs.size + 4, s1.heap.objs.size + 2, s1.heap.objs.size + 3, s1.heap.objs.size, s1.heap.objs.size + 1], _, _, H1, rfl, I2,
    turn_zipG b1 b2 ⟨nes 2 4 (by decide), nes 3 4 (by decide), nes 2 3 (by decide), nes 2 0 (by decide), nes 2 1 (by decide), nes 4 0 (by decide), nes 4 1 (by decide), nes 3 0 (by decide), nes 3 1 (by decide), nes 0 1 (by decide)⟩,
    ⟨hz, hTI, ⟨_, _, hTO⟩, ItB.of_get h1, ItB.of_get h2⟩, fun c hcm => ?_, q⟩
  have hle : s1.heap.objs.size ≤ c := by
    rcases (show c = s1.heap.objs.size + 4 ∨ c = s1.heap.objs.size + 2 ∨ c = s1.heap.objs.size + 3 ∨ c = s1.heap.objs.size ∨ c = s1.heap.objs.size + 1 by simpa using hcm) with z | z | z | z | z <;> rw [z] <;> first | exact Nat.le_add_right _ _ | exact Nat.le_refl _
  exact I1.fpOk hle (I1.hok.fresh hle)

/-! ### over the shapes -/
section
variable {c : Cc} {Γ : En} {ω ω1 ω2 : Ws} {a b : Expr} {α β : Type} {Rs : α → Sh} {Rt' : β → Sh} {xs : List α} {ys : List β} {bb b1 b2 : Bool} {pos p tpos : Pos} {elts : List Expr} {kk : Nat}
end
end ZZ

set_option maxHeartbeats 2000000
/-! Y8: max, min of lists and tuples of numbers, with default=. -/
namespace ZZ
open PySem PySem.Spec PyProof.Rows L2
open Evl (Ex)
def okw (kw : List (Str × Value)) : Prop := kw = [] ∨ ∃ d, kw = [(Str.ofString "default", d)]
def kwDef (kw : List (Str × Value)) : Value := (kw.headD (Str.ofString "default", .none)).2

/-! ### max -/
/-- the best of the first j -/
def Bstmax (ns : List Int) (j : Nat) (m : Int) : Prop := m ∈ ns.take j ∧ ∀ y ∈ ns.take j, y ≤ m
section
variable {prog : Program} {w : World} {A : Around} {E : Value → Shared → Prop} {s : Shared} {R : Result → Shared → Prop} {I : Addr} {fp wr : List Addr} {n : Nat} {St : Nat → Heap → Prop} {items : Array Value} {ns : List Int} {kw : List (Str × Value)}
theorem bstmax_step {j : Nat} {m v : Int} (h : Bstmax ns j m) (hv : ns[j]? = some v) : Bstmax ns (j + 1) (if decide (m < v) then v else m) := by
  unfold Bstmax at h ⊢
  rw [List.take_add_one, hv, Option.toList_some]
  obtain ⟨h1, h2⟩ := h
  by_cases q : m < v
  · rw [decide_eq_true q, if_pos rfl]
    refine ⟨List.mem_append_right _ List.mem_cons_self, fun y hy => ?_⟩
    rcases List.mem_append.mp hy with hy | hy
    · have := h2 y hy; omega
    · have : y = v := by simpa using hy
      omega
  · rw [decide_eq_false q, if_neg Bool.false_ne_true]
    refine ⟨List.mem_append_left _ h1, fun y hy => ?_⟩
    rcases List.mem_append.mp hy with hy | hy
    · exact h2 y hy
    · have : y = v := by simpa using hy
      omega
/-- what stands in the loop's list: nothing at first, then the best, twice -/
def Oldmax (ns : List Int) (j : Nat) (old : Array Value) : Prop := (j = 0 ∧ old = #[]) ∨ ∃ m t, Bstmax ns j m ∧ old = #[.int m t, .int m t]
theorem max_loop (W : Walks prog w A.in1 I fp wr n (fun i v => items[i]? = some v) St) (hi : IntsAre items.toList ns) (hn : n = ns.length) (hk : okw kw) (S : Addr) (hSf : S ∉ fp) :
    ∀ (k j : Nat) (s : Shared) (old : Array Value) (c : Nat), n - j = k → j ≤ n → St j s.heap → Oldmax ns j old → s.heap.get? S = some { cls := .type "list", dict := none, data := .seq old c, slots := #[] } →
    (∀ m t h' tk, ns ≠ [] → m ∈ ns → (∀ y ∈ ns, y ≤ m) → (∀ b o, b ∉ wr → b ≠ S → s.heap.get? b = some o → h'.get? b = some o) → R (.ok (.ret (.int m t))) { s with heap := h', toks := tk }) →
    (∀ h' tk, ns = [] → kw ≠ [] → (∀ b o, b ∉ wr → b ≠ S → s.heap.get? b = some o → h'.get? b = some o) → R (.ok (.ret (kwDef kw))) { s with heap := h', toks := tk }) → (ns = [] → kw ≠ []) →
    codeAny (model prog w) A (.builtin "max.loop" ⟨[.ref I, .none, .ref S], kw⟩) R s := by
  have hSw : S ∉ wr := fun h => hSf (W.sub _ h)
  have nm : (toString "max" ++ toString ".loop" : String) = "max.loop" := by decide
  have atI : ∀ {j : Nat} {v : Value}, items[j]? = some v → ∃ i t, v = .int i t ∧ ns[j]? = some i := fun {j v} hv => by
    have key : ∀ {vs : List Value} {ms : List Int}, IntsAre vs ms → ∀ {j : Nat}, vs[j]? = some v → ∃ i t, v = .int i t ∧ ms[j]? = some i := by
      intro vs ms h
      induction h with
      | nil => intro j hj; simp at hj
      | cons n t r ih =>
        intro j hj
        cases j with
        | zero => exact ⟨n, t, by simpa using hj.symm, by simp⟩
        | succ j => obtain ⟨i, u, e1, e2⟩ := ih (by simpa using hj); exact ⟨i, u, e1, by simpa using e2⟩
    exact key hi (by simpa using hv)
  intro k
  induction k with
  | zero =>
    intro j s old c hkj hj hst hold hS hR hD hne
    have ej : n = j := by omega
    refine codeAny_builtin F.entry_max_loop (by
      rw [Around.under_plainId F.plain_max_loop _]
      show wpAny _ A.in1 (seqItems? (.ref S) >>= _) _ _ s
      refine wpAny_bind (wpAny_seqItems hS rfl (show wpAny _ A.in1 (tryCatch (pyNext (.ref I)) _ >>= _) _ _ s from wpAny_bind (wpAny_tryCatch (W.done s _ _ (ej ▸ hst) fun h' tk hk' => ?_))))
      have hS' := hk' S _ hSw hS
      rcases hold with ⟨h0, rfl⟩ | ⟨m, t, hm, rfl⟩
      · have e0 : ns = [] := List.eq_nil_of_length_eq_zero (by omega)
        rcases hk with rfl | ⟨d, rfl⟩
        · exact absurd rfl (hne e0)
        · exact wpAny_bind (wpAny_rule (wpAny_pure (hD h' tk e0 (by simp) fun b o hb _ e => hk' b o hb e)))
      · show wpAny _ A.in1 (updateSeq S (fun _ => #[]) >>= _) _ _ _
        refine wpAny_bind (wpAny_updateSeq hS' rfl (wpAny_bind (wpAny_letGo (wpAny_pure ?_))))
        have et : ns.take j = ns := List.take_of_length_le (by omega)
        unfold Bstmax at hm
        rw [et] at hm
        exact hR m t _ tk (fun z => by rw [z] at hm; exact absurd hm.1 (by simp)) hm.1 hm.2 fun b o hb hbS e => (Heap.get?_update_other _ _ (Ne.symm hbS)).trans (hk' b o hb e))
  | succ k ih =>
    intro j s old c hkj hj hst hold hS hR hD hne
    have hlt : j < n := by omega
    refine codeAny_builtin F.entry_max_loop (by
      rw [Around.under_plainId F.plain_max_loop _]
      show wpAny _ A.in1 (seqItems? (.ref S) >>= _) _ _ s
      refine wpAny_bind (wpAny_seqItems hS rfl (show wpAny _ A.in1 (tryCatch (pyNext (.ref I)) _ >>= _) _ _ s from wpAny_bind (wpAny_tryCatch (W.item j s _ _ hlt hst fun v h' tk hP hst' hk' => ?_))))
      obtain ⟨i, ti, rfl, hv⟩ := atI hP
      have hS' := hk' S _ hSw hS
      have step : ∀ (h2 : Heap) (t2 : Nat) (new : Array Value) (c2 : Nat), Oldmax ns (j + 1) new → h2.get? S = some { cls := .type "list", dict := none, data := .seq new c2, slots := #[] } → (∀ b o, b ≠ S → h'.get? b = some o → h2.get? b = some o) →
          codeAny (model prog w) A (.builtin "max.loop" ⟨[.ref I, .none, .ref S], kw⟩) R { s with heap := h2, toks := t2 } := fun h2 t2 new c2 hnew hS2 hkeep => by
        refine ih (j + 1) _ new c2 (by omega) hlt (W.frame _ _ _ hst' fun b hbf o e => hkeep b o (fun z => hSf (z ▸ hbf)) e) hnew hS2 (fun m t h3 t3 q1 q2 q3 q4 => ?_) (fun h3 t3 q1 q2 q3 => ?_) hne
        · exact hR m t h3 t3 q1 q2 q3 fun b o hb hbS e => q4 b o hb hbS (hkeep b o hbS (hk' b o hb e))
        · exact hD h3 t3 q1 q2 fun b o hb hbS e => q3 b o hb hbS (hkeep b o hbS (hk' b o hb e))
      rcases hold with ⟨h0, rfl⟩ | ⟨m, t, hm, rfl⟩
      · subst h0
        show wpAny _ A.in1 (updateSeq S (fun _ => #[Value.int i ti, .int i ti]) >>= _) _ _ _
        refine wpAny_bind (wpAny_updateSeq hS' rfl ?_)
        rw [nm]
        refine wpAny_pure ⟨plainId_quiet F.plain_max_loop _, step _ _ _ _ (.inr ⟨i, ti, ⟨by rw [List.take_add_one, hv]; simp, fun y hy => ?_⟩, rfl⟩) (Heap.get?_update_self _ hS' rfl) fun b o hbS e => (Heap.get?_update_other _ _ (Ne.symm hbS)).trans e⟩
        rw [List.take_add_one, hv] at hy
        have : y = i := by simpa using hy
        omega
      · show wpAny _ A.in1 (tryCatch (holding [Value.int i ti, .int i ti] (richCompare .Gt (.int i ti) (.int m t) >>= _)) _ >>= _) _ _ _
        refine wpAny_bind (wpAny_tryCatch (wpAny_holding (wpAny_bind (show wpAny _ A.in1 (compareOp .Gt (.int i ti) (.int m t)) _ _ _ from PyProof.Rows.gt_int (wpAny_bind (wpAny_holding (wpAny_truthy_bool (wpAny_bind (wpAny_letGo (wpAny_pure ?_))))))))))
        have hb := bstmax_step hm hv
        cases q : decide (m < i) with
        | true =>
          rw [q, if_pos rfl] at hb
          rw [if_pos rfl]
          refine wpAny_bind (wpAny_updateSeq hS' rfl (wpAny_bind (wpAny_letGo ?_)))
          rw [nm]
          exact wpAny_pure ⟨plainId_quiet F.plain_max_loop _, step _ _ _ _ (.inr ⟨i, ti, hb, rfl⟩) (Heap.get?_update_self _ hS' rfl) fun b o hbS e => (Heap.get?_update_other _ _ (Ne.symm hbS)).trans e⟩
        | false =>
          rw [q, if_neg Bool.false_ne_true] at hb
          rw [if_neg Bool.false_ne_true]
          refine wpAny_bind (wpAny_letGo ?_)
          rw [nm]
          exact wpAny_pure ⟨plainId_quiet F.plain_max_loop _, step _ _ _ c (.inr ⟨m, t, hb, rfl⟩) hS' fun b o _ e => e⟩)
theorem args_maxk {a : Value} (hk : okw kw) : argsOk "max" ⟨[a], kw⟩ := by
  rcases hk with rfl | ⟨d, rfl⟩
  · unfold argsOk; kernel_rfl
  · unfold argsOk; kernel_rfl
theorem max_call {x : Value} {Q : Value → Shared → Prop} (hk : okw kw) (hne : ns = [] → kw ≠ []) (hi : IntsAre items.toList ns)
    (h : wpAny (model prog w) A.in1 (pyIter x) (fun it s2 => ∃ I fp wr St, it = .ref I ∧ Walks prog w A.in1 I fp wr items.size (fun i v => items[i]? = some v) St ∧ St 0 s2.heap ∧ (∀ b ∈ fp, b < s2.heap.objs.size) ∧
      (∀ m t h' tk, ns ≠ [] → m ∈ ns → (∀ y ∈ ns, y ≤ m) → (∀ b o, b ∉ wr → s2.heap.get? b = some o → h'.get? b = some o) → Q (.int m t) { s2 with heap := h', toks := tk }) ∧
      ∀ h' tk, ns = [] → kw ≠ [] → (∀ b o, b ∉ wr → s2.heap.get? b = some o → h'.get? b = some o) → Q (kwDef kw) { s2 with heap := h', toks := tk }) E s) :
    wpAny (model prog w) A (call (.builtin "max") [x] kw) Q E s := by
  have nm : (toString "max" ++ toString ".loop" : String) = "max.loop" := by decide
  have hl : items.size = ns.length := by
    have key : ∀ {vs : List Value} {ms : List Int}, IntsAre vs ms → vs.length = ms.length := by
      intro vs ms h
      induction h with
      | nil => rfl
      | cons n t r ih => simp [ih]
    rw [← Array.length_toList]; exact key hi
  refine wpAny_call (codeAny_call_builtin F.plain_max F.entry_max ?_)
  have ha := args_maxk (a := x) hk
  simp only [checkBuiltinCall, F.kind_max]
  have main : wpAny (model prog w) A.in1 (Builtin.«max» ⟨[x], kw⟩) (fun fin s' => match fin with
      | .done f => (match (Except.ok f : Result) with | .ok (.ret v) => Q v s' | .ok _ => False | .error e => E e s')
      | .again c' => c'.quiet = true ∧ codeAny (model prog w) A c' (fun r s' => match r with | .ok (.ret v) => Q v s' | .ok _ => False | .error e => E e s') s') E s := by
    have hb : ∃ o : Option Value, Builtin.Builtins.bindParams "max" ["key", "default"] 0 ⟨[], kw⟩ = pure [none, o] ∧ (o.toList.map fun d => (Str.ofString "default", d)) = kw := by
      rcases hk with rfl | ⟨d, rfl⟩
      · exact ⟨none, rfl, rfl⟩
      · exact ⟨some d, rfl, rfl⟩
    obtain ⟨o, hb, ho⟩ := hb
    show wpAny _ A.in1 (Builtin.Builtins.bindParams "max" ["key", "default"] 0 ⟨[], kw⟩ >>= _) _ _ s
    refine wpAny_bind (wpAny_of_eq hb (wpAny_bind (wpAny_pure (wpAny_bind (wpAny_mono h (fun it s2 h2 => ?_) fun _ _ e => e)))))
    obtain ⟨I, fp, wr, St, rfl, W, hst, hfp, hQ, hD⟩ := h2
    refine wpAny_bind (wpAny_newObj_type ?_)
    have hSf : s2.heap.objs.size ∉ fp := fun hm => Nat.lt_irrefl _ (hfp _ hm)
    rw [nm]
    refine wpAny_pure ⟨plainId_quiet F.plain_max_loop _, ?_⟩
    rw [ho]
    refine max_loop W hi hl hk s2.heap.objs.size hSf _ 0 _ #[] _ rfl (Nat.zero_le _) (W.frame _ _ _ hst fun b _ o e => Heap.get?_push_of_some _ e) (.inl ⟨rfl, rfl⟩) (Heap.get?_push_size _ rfl) (fun m t h' tk q1 q2 q3 q4 => ?_) (fun h' tk q1 q2 q3 => ?_) hne
    · exact hQ m t h' tk q1 q2 q3 fun b o hbw e => q4 b o hbw (Nat.ne_of_lt (Heap.lt_size e)) (Heap.get?_push_of_some _ e)
    · exact hD h' tk q1 q2 fun b o hbw e => q3 b o hbw (Nat.ne_of_lt (Heap.lt_size e)) (Heap.get?_push_of_some _ e)
  cases hsig : Manifest.signature? "max" with
  | none => exact wpAny_pure main
  | some sig =>
    simp only [argsOk, hsig] at ha
    have h2 : Bind.checkArgs "max" sig ⟨[x], kw⟩ = pure () := ha
    show wpAny _ A.in1 (Bind.checkArgs "max" sig ⟨[x], kw⟩) _ _ s
    rw [h2]; exact wpAny_pure main
end
/-- max(xs), max(xs, default=d): lists and tuples of numbers -/
theorem max_run {X : Cx} {pins : List (Addr × Obj)} {σ : L2.St} {H : Hp} {s : Shared} {bb : Bool} {a : Addr} {ns : List Int} {kw : List (Str × Value)} {Q : VK} (hc : X.calm = true) (I : Inv X pins σ H s) (hk : okw kw) (hne : ns = [] → kw ≠ []) (hs : SqB X.K bb H a (ns.map V.int))
    (h1 : ∀ m, m ∈ ns → (∀ y ∈ ns, y ≤ m) → Q (.int m) H) (h2 : ns = [] → ∃ d, RelV d (kwDef kw) ∧ Q d H) : wpAny (model X.prog X.w) X.A (call (.builtin "max") [.ref a] kw) (EP X pins σ Q) X.xe s := by
  obtain ⟨its, rv, ob, hz⟩ := src_og I hs
  have hi : IntsAre its.toArray.toList ns := by rw [List.toList_toArray]; exact rv.ints
  refine max_call hk hne hi ?_
  have fin1 : ∀ (o : Obj) (m : Int) (t : Tok) (h' : Heap) (tk : Nat), ns ≠ [] → m ∈ ns → (∀ y ∈ ns, y ≤ m) → (∀ b u, b ∉ [s.heap.objs.size] → (s.heap.push o).get? b = some u → h'.get? b = some u) → EP X pins σ Q (.int m t) { s with heap := h', toks := tk } := fun o m t h' tk q1 q2 q3 q4 =>
    ⟨.int m, H, I.kept fun b u e => q4 b u (fun z => absurd (Heap.lt_size e) (by rw [List.mem_singleton.mp z]; exact Nat.lt_irrefl _)) (Heap.get?_push_of_some _ e), ⟨_, rfl⟩, h1 m q2 q3⟩
  have fin2 : ∀ (o : Obj) (h' : Heap) (tk : Nat), ns = [] → kw ≠ [] → (∀ b u, b ∉ [s.heap.objs.size] → (s.heap.push o).get? b = some u → h'.get? b = some u) → EP X pins σ Q (kwDef kw) { s with heap := h', toks := tk } := fun o h' tk q1 q2 q4 => by
    obtain ⟨d, r, q⟩ := h2 q1
    exact ⟨d, H, I.kept fun b u e => q4 b u (fun z => absurd (Heap.lt_size e) (by rw [List.mem_singleton.mp z]; exact Nat.lt_irrefl _)) (Heap.get?_push_of_some _ e), r, q⟩
  have hne' : a ≠ s.heap.objs.size := by
    obtain ⟨o, e, _⟩ := ob.rec'
    exact Nat.ne_of_lt (Heap.lt_size e)
  have hfp : ∀ (o : Obj), ∀ b ∈ [s.heap.objs.size, a], b < (s.heap.push o).objs.size := fun o b hb => by
    obtain ⟨o', e, _⟩ := ob.rec'
    have := Heap.lt_size e
    rw [Heap.size_push]
    rcases List.mem_cons.mp hb with rfl | hb
    · exact Nat.lt_succ_self _
    · rw [List.mem_singleton.mp hb]
      exact Nat.lt_succ_of_lt this
  cases bb with
  | true =>
    have ob : s.heap.IsList a its.toArray := ob
    exact wpAny_pyIter_list ob ⟨_, _, _, _, rfl, Walks.list (A := X.A.in1) (I.ok.hd hc) _ a hne' its.toArray, ⟨⟨_, Heap.get?_push_size _ rfl, rfl, rfl⟩, ob.push _⟩, hfp _, fin1 _, fin2 _⟩
  | false =>
    have ob : s.heap.IsTuple a its.toArray := ob
    exact wpAny_pyIter_tuple ob ⟨_, _, _, _, rfl, Walks.tuple (A := X.A.in1) (I.ok.hd hc) _ a hne' its.toArray, ⟨⟨_, Heap.get?_push_size _ rfl, rfl, rfl⟩, ob.push _⟩, hfp _, fin1 _, fin2 _⟩

/-! ### min -/
/-- the best of the first j -/
def Bstmin (ns : List Int) (j : Nat) (m : Int) : Prop := m ∈ ns.take j ∧ ∀ y ∈ ns.take j, m ≤ y
section
variable {prog : Program} {w : World} {A : Around} {E : Value → Shared → Prop} {s : Shared} {R : Result → Shared → Prop} {I : Addr} {fp wr : List Addr} {n : Nat} {St : Nat → Heap → Prop} {items : Array Value} {ns : List Int} {kw : List (Str × Value)}
theorem bstmin_step {j : Nat} {m v : Int} (h : Bstmin ns j m) (hv : ns[j]? = some v) : Bstmin ns (j + 1) (if decide (v < m) then v else m) := by
  unfold Bstmin at h ⊢
  rw [List.take_add_one, hv, Option.toList_some]
  obtain ⟨h1, h2⟩ := h
  by_cases q : v < m
  · rw [decide_eq_true q, if_pos rfl]
    refine ⟨List.mem_append_right _ List.mem_cons_self, fun y hy => ?_⟩
    rcases List.mem_append.mp hy with hy | hy
    · have := h2 y hy; omega
    · have : y = v := by simpa using hy
      omega
  · rw [decide_eq_false q, if_neg Bool.false_ne_true]
    refine ⟨List.mem_append_left _ h1, fun y hy => ?_⟩
    rcases List.mem_append.mp hy with hy | hy
    · exact h2 y hy
    · have : y = v := by simpa using hy
      omega
/-- what stands in the loop's list: nothing at first, then the best, twice -/
def Oldmin (ns : List Int) (j : Nat) (old : Array Value) : Prop := (j = 0 ∧ old = #[]) ∨ ∃ m t, Bstmin ns j m ∧ old = #[.int m t, .int m t]
theorem min_loop (W : Walks prog w A.in1 I fp wr n (fun i v => items[i]? = some v) St) (hi : IntsAre items.toList ns) (hn : n = ns.length) (hk : okw kw) (S : Addr) (hSf : S ∉ fp) :
    ∀ (k j : Nat) (s : Shared) (old : Array Value) (c : Nat), n - j = k → j ≤ n → St j s.heap → Oldmin ns j old → s.heap.get? S = some { cls := .type "list", dict := none, data := .seq old c, slots := #[] } →
    (∀ m t h' tk, ns ≠ [] → m ∈ ns → (∀ y ∈ ns, m ≤ y) → (∀ b o, b ∉ wr → b ≠ S → s.heap.get? b = some o → h'.get? b = some o) → R (.ok (.ret (.int m t))) { s with heap := h', toks := tk }) →
    (∀ h' tk, ns = [] → kw ≠ [] → (∀ b o, b ∉ wr → b ≠ S → s.heap.get? b = some o → h'.get? b = some o) → R (.ok (.ret (kwDef kw))) { s with heap := h', toks := tk }) → (ns = [] → kw ≠ []) →
    codeAny (model prog w) A (.builtin "min.loop" ⟨[.ref I, .none, .ref S], kw⟩) R s := by
  have hSw : S ∉ wr := fun h => hSf (W.sub _ h)
  have nm : (toString "min" ++ toString ".loop" : String) = "min.loop" := by decide
  have atI : ∀ {j : Nat} {v : Value}, items[j]? = some v → ∃ i t, v = .int i t ∧ ns[j]? = some i := fun {j v} hv => by
    have key : ∀ {vs : List Value} {ms : List Int}, IntsAre vs ms → ∀ {j : Nat}, vs[j]? = some v → ∃ i t, v = .int i t ∧ ms[j]? = some i := by
      intro vs ms h
      induction h with
      | nil => intro j hj; simp at hj
      | cons n t r ih =>
        intro j hj
        cases j with
        | zero => exact ⟨n, t, by simpa using hj.symm, by simp⟩
        | succ j => obtain ⟨i, u, e1, e2⟩ := ih (by simpa using hj); exact ⟨i, u, e1, by simpa using e2⟩
    exact key hi (by simpa using hv)
  intro k
  induction k with
  | zero =>
    intro j s old c hkj hj hst hold hS hR hD hne
    have ej : n = j := by omega
    refine codeAny_builtin F.entry_min_loop (by
      rw [Around.under_plainId F.plain_min_loop _]
      show wpAny _ A.in1 (seqItems? (.ref S) >>= _) _ _ s
      refine wpAny_bind (wpAny_seqItems hS rfl (show wpAny _ A.in1 (tryCatch (pyNext (.ref I)) _ >>= _) _ _ s from wpAny_bind (wpAny_tryCatch (W.done s _ _ (ej ▸ hst) fun h' tk hk' => ?_))))
      have hS' := hk' S _ hSw hS
      rcases hold with ⟨h0, rfl⟩ | ⟨m, t, hm, rfl⟩
      · have e0 : ns = [] := List.eq_nil_of_length_eq_zero (by omega)
        rcases hk with rfl | ⟨d, rfl⟩
        · exact absurd rfl (hne e0)
        · exact wpAny_bind (wpAny_rule (wpAny_pure (hD h' tk e0 (by simp) fun b o hb _ e => hk' b o hb e)))
      · show wpAny _ A.in1 (updateSeq S (fun _ => #[]) >>= _) _ _ _
        refine wpAny_bind (wpAny_updateSeq hS' rfl (wpAny_bind (wpAny_letGo (wpAny_pure ?_))))
        have et : ns.take j = ns := List.take_of_length_le (by omega)
        unfold Bstmin at hm
        rw [et] at hm
        exact hR m t _ tk (fun z => by rw [z] at hm; exact absurd hm.1 (by simp)) hm.1 hm.2 fun b o hb hbS e => (Heap.get?_update_other _ _ (Ne.symm hbS)).trans (hk' b o hb e))
  | succ k ih =>
    intro j s old c hkj hj hst hold hS hR hD hne
    have hlt : j < n := by omega
    refine codeAny_builtin F.entry_min_loop (by
      rw [Around.under_plainId F.plain_min_loop _]
      show wpAny _ A.in1 (seqItems? (.ref S) >>= _) _ _ s
      refine wpAny_bind (wpAny_seqItems hS rfl (show wpAny _ A.in1 (tryCatch (pyNext (.ref I)) _ >>= _) _ _ s from wpAny_bind (wpAny_tryCatch (W.item j s _ _ hlt hst fun v h' tk hP hst' hk' => ?_))))
      obtain ⟨i, ti, rfl, hv⟩ := atI hP
      have hS' := hk' S _ hSw hS
      have step : ∀ (h2 : Heap) (t2 : Nat) (new : Array Value) (c2 : Nat), Oldmin ns (j + 1) new → h2.get? S = some { cls := .type "list", dict := none, data := .seq new c2, slots := #[] } → (∀ b o, b ≠ S → h'.get? b = some o → h2.get? b = some o) →
          codeAny (model prog w) A (.builtin "min.loop" ⟨[.ref I, .none, .ref S], kw⟩) R { s with heap := h2, toks := t2 } := fun h2 t2 new c2 hnew hS2 hkeep => by
        refine ih (j + 1) _ new c2 (by omega) hlt (W.frame _ _ _ hst' fun b hbf o e => hkeep b o (fun z => hSf (z ▸ hbf)) e) hnew hS2 (fun m t h3 t3 q1 q2 q3 q4 => ?_) (fun h3 t3 q1 q2 q3 => ?_) hne
        · exact hR m t h3 t3 q1 q2 q3 fun b o hb hbS e => q4 b o hb hbS (hkeep b o hbS (hk' b o hb e))
        · exact hD h3 t3 q1 q2 fun b o hb hbS e => q3 b o hb hbS (hkeep b o hbS (hk' b o hb e))
      rcases hold with ⟨h0, rfl⟩ | ⟨m, t, hm, rfl⟩
      · subst h0
        show wpAny _ A.in1 (updateSeq S (fun _ => #[Value.int i ti, .int i ti]) >>= _) _ _ _
        refine wpAny_bind (wpAny_updateSeq hS' rfl ?_)
        rw [nm]
        refine wpAny_pure ⟨plainId_quiet F.plain_min_loop _, step _ _ _ _ (.inr ⟨i, ti, ⟨by rw [List.take_add_one, hv]; simp, fun y hy => ?_⟩, rfl⟩) (Heap.get?_update_self _ hS' rfl) fun b o hbS e => (Heap.get?_update_other _ _ (Ne.symm hbS)).trans e⟩
        rw [List.take_add_one, hv] at hy
        have : y = i := by simpa using hy
        omega
      · show wpAny _ A.in1 (tryCatch (holding [Value.int i ti, .int i ti] (richCompare .Lt (.int i ti) (.int m t) >>= _)) _ >>= _) _ _ _
        refine wpAny_bind (wpAny_tryCatch (wpAny_holding (wpAny_bind (show wpAny _ A.in1 (compareOp .Lt (.int i ti) (.int m t)) _ _ _ from PyProof.Rows.lt_int (wpAny_bind (wpAny_holding (wpAny_truthy_bool (wpAny_bind (wpAny_letGo (wpAny_pure ?_))))))))))
        have hb := bstmin_step hm hv
        cases q : decide (i < m) with
        | true =>
          rw [q, if_pos rfl] at hb
          rw [if_pos rfl]
          refine wpAny_bind (wpAny_updateSeq hS' rfl (wpAny_bind (wpAny_letGo ?_)))
          rw [nm]
          exact wpAny_pure ⟨plainId_quiet F.plain_min_loop _, step _ _ _ _ (.inr ⟨i, ti, hb, rfl⟩) (Heap.get?_update_self _ hS' rfl) fun b o hbS e => (Heap.get?_update_other _ _ (Ne.symm hbS)).trans e⟩
        | false =>
          rw [q, if_neg Bool.false_ne_true] at hb
          rw [if_neg Bool.false_ne_true]
          refine wpAny_bind (wpAny_letGo ?_)
          rw [nm]
          exact wpAny_pure ⟨plainId_quiet F.plain_min_loop _, step _ _ _ c (.inr ⟨m, t, hb, rfl⟩) hS' fun b o _ e => e⟩)
theorem args_mink {a : Value} (hk : okw kw) : argsOk "min" ⟨[a], kw⟩ := by
  rcases hk with rfl | ⟨d, rfl⟩
  · unfold argsOk; kernel_rfl
  · unfold argsOk; kernel_rfl
theorem min_call {x : Value} {Q : Value → Shared → Prop} (hk : okw kw) (hne : ns = [] → kw ≠ []) (hi : IntsAre items.toList ns)
    (h : wpAny (model prog w) A.in1 (pyIter x) (fun it s2 => ∃ I fp wr St, it = .ref I ∧ Walks prog w A.in1 I fp wr items.size (fun i v => items[i]? = some v) St ∧ St 0 s2.heap ∧ (∀ b ∈ fp, b < s2.heap.objs.size) ∧
      (∀ m t h' tk, ns ≠ [] → m ∈ ns → (∀ y ∈ ns, m ≤ y) → (∀ b o, b ∉ wr → s2.heap.get? b = some o → h'.get? b = some o) → Q (.int m t) { s2 with heap := h', toks := tk }) ∧
      ∀ h' tk, ns = [] → kw ≠ [] → (∀ b o, b ∉ wr → s2.heap.get? b = some o → h'.get? b = some o) → Q (kwDef kw) { s2 with heap := h', toks := tk }) E s) :
    wpAny (model prog w) A (call (.builtin "min") [x] kw) Q E s := by
  have nm : (toString "min" ++ toString ".loop" : String) = "min.loop" := by decide
  have hl : items.size = ns.length := by
    have key : ∀ {vs : List Value} {ms : List Int}, IntsAre vs ms → vs.length = ms.length := by
      intro vs ms h
      induction h with
      | nil => rfl
      | cons n t r ih => simp [ih]
    rw [← Array.length_toList]; exact key hi
  refine wpAny_call (codeAny_call_builtin F.plain_min F.entry_min ?_)
  have ha := args_mink (a := x) hk
  simp only [checkBuiltinCall, F.kind_min]
  have main : wpAny (model prog w) A.in1 (Builtin.«min» ⟨[x], kw⟩) (fun fin s' => match fin with
      | .done f => (match (Except.ok f : Result) with | .ok (.ret v) => Q v s' | .ok _ => False | .error e => E e s')
      | .again c' => c'.quiet = true ∧ codeAny (model prog w) A c' (fun r s' => match r with | .ok (.ret v) => Q v s' | .ok _ => False | .error e => E e s') s') E s := by
    have hb : ∃ o : Option Value, Builtin.Builtins.bindParams "min" ["key", "default"] 0 ⟨[], kw⟩ = pure [none, o] ∧ (o.toList.map fun d => (Str.ofString "default", d)) = kw := by
      rcases hk with rfl | ⟨d, rfl⟩
      · exact ⟨none, rfl, rfl⟩
      · exact ⟨some d, rfl, rfl⟩
    obtain ⟨o, hb, ho⟩ := hb
    show wpAny _ A.in1 (Builtin.Builtins.bindParams "min" ["key", "default"] 0 ⟨[], kw⟩ >>= _) _ _ s
    refine wpAny_bind (wpAny_of_eq hb (wpAny_bind (wpAny_pure (wpAny_bind (wpAny_mono h (fun it s2 h2 => ?_) fun _ _ e => e)))))
    obtain ⟨I, fp, wr, St, rfl, W, hst, hfp, hQ, hD⟩ := h2
    refine wpAny_bind (wpAny_newObj_type ?_)
    have hSf : s2.heap.objs.size ∉ fp := fun hm => Nat.lt_irrefl _ (hfp _ hm)
    rw [nm]
    refine wpAny_pure ⟨plainId_quiet F.plain_min_loop _, ?_⟩
    rw [ho]
    refine min_loop W hi hl hk s2.heap.objs.size hSf _ 0 _ #[] _ rfl (Nat.zero_le _) (W.frame _ _ _ hst fun b _ o e => Heap.get?_push_of_some _ e) (.inl ⟨rfl, rfl⟩) (Heap.get?_push_size _ rfl) (fun m t h' tk q1 q2 q3 q4 => ?_) (fun h' tk q1 q2 q3 => ?_) hne
    · exact hQ m t h' tk q1 q2 q3 fun b o hbw e => q4 b o hbw (Nat.ne_of_lt (Heap.lt_size e)) (Heap.get?_push_of_some _ e)
    · exact hD h' tk q1 q2 fun b o hbw e => q3 b o hbw (Nat.ne_of_lt (Heap.lt_size e)) (Heap.get?_push_of_some _ e)
  cases hsig : Manifest.signature? "min" with
  | none => exact wpAny_pure main
  | some sig =>
    simp only [argsOk, hsig] at ha
    have h2 : Bind.checkArgs "min" sig ⟨[x], kw⟩ = pure () := ha
    show wpAny _ A.in1 (Bind.checkArgs "min" sig ⟨[x], kw⟩) _ _ s
    rw [h2]; exact wpAny_pure main
end
/-- min(xs), min(xs, default=d): lists and tuples of numbers -/
theorem min_run {X : Cx} {pins : List (Addr × Obj)} {σ : L2.St} {H : Hp} {s : Shared} {bb : Bool} {a : Addr} {ns : List Int} {kw : List (Str × Value)} {Q : VK} (hc : X.calm = true) (I : Inv X pins σ H s) (hk : okw kw) (hne : ns = [] → kw ≠ []) (hs : SqB X.K bb H a (ns.map V.int))
    (h1 : ∀ m, m ∈ ns → (∀ y ∈ ns, m ≤ y) → Q (.int m) H) (h2 : ns = [] → ∃ d, RelV d (kwDef kw) ∧ Q d H) : wpAny (model X.prog X.w) X.A (call (.builtin "min") [.ref a] kw) (EP X pins σ Q) X.xe s := by
  obtain ⟨its, rv, ob, hz⟩ := src_og I hs
  have hi : IntsAre its.toArray.toList ns := by rw [List.toList_toArray]; exact rv.ints
  refine min_call hk hne hi ?_
  have fin1 : ∀ (o : Obj) (m : Int) (t : Tok) (h' : Heap) (tk : Nat), ns ≠ [] → m ∈ ns → (∀ y ∈ ns, m ≤ y) → (∀ b u, b ∉ [s.heap.objs.size] → (s.heap.push o).get? b = some u → h'.get? b = some u) → EP X pins σ Q (.int m t) { s with heap := h', toks := tk } := fun o m t h' tk q1 q2 q3 q4 =>
    ⟨.int m, H, I.kept fun b u e => q4 b u (fun z => absurd (Heap.lt_size e) (by rw [List.mem_singleton.mp z]; exact Nat.lt_irrefl _)) (Heap.get?_push_of_some _ e), ⟨_, rfl⟩, h1 m q2 q3⟩
  have fin2 : ∀ (o : Obj) (h' : Heap) (tk : Nat), ns = [] → kw ≠ [] → (∀ b u, b ∉ [s.heap.objs.size] → (s.heap.push o).get? b = some u → h'.get? b = some u) → EP X pins σ Q (kwDef kw) { s with heap := h', toks := tk } := fun o h' tk q1 q2 q4 => by
    obtain ⟨d, r, q⟩ := h2 q1
    exact ⟨d, H, I.kept fun b u e => q4 b u (fun z => absurd (Heap.lt_size e) (by rw [List.mem_singleton.mp z]; exact Nat.lt_irrefl _)) (Heap.get?_push_of_some _ e), r, q⟩
  have hne' : a ≠ s.heap.objs.size := by
    obtain ⟨o, e, _⟩ := ob.rec'
    exact Nat.ne_of_lt (Heap.lt_size e)
  have hfp : ∀ (o : Obj), ∀ b ∈ [s.heap.objs.size, a], b < (s.heap.push o).objs.size := fun o b hb => by
    obtain ⟨o', e, _⟩ := ob.rec'
    have := Heap.lt_size e
    rw [Heap.size_push]
    rcases List.mem_cons.mp hb with rfl | hb
    · exact Nat.lt_succ_self _
    · rw [List.mem_singleton.mp hb]
      exact Nat.lt_succ_of_lt this
  cases bb with
  | true =>
    have ob : s.heap.IsList a its.toArray := ob
    exact wpAny_pyIter_list ob ⟨_, _, _, _, rfl, Walks.list (A := X.A.in1) (I.ok.hd hc) _ a hne' its.toArray, ⟨⟨_, Heap.get?_push_size _ rfl, rfl, rfl⟩, ob.push _⟩, hfp _, fin1 _, fin2 _⟩
  | false =>
    have ob : s.heap.IsTuple a its.toArray := ob
    exact wpAny_pyIter_tuple ob ⟨_, _, _, _, rfl, Walks.tuple (A := X.A.in1) (I.ok.hd hc) _ a hne' its.toArray, ⟨⟨_, Heap.get?_push_size _ rfl, rfl, rfl⟩, ob.push _⟩, hfp _, fin1 _, fin2 _⟩
end ZZ

set_option maxHeartbeats 2000000
/-! Y9: sorting by kinds, equality, constants of the module, pairs compared, small things. -/
namespace ZZ
open PySem PySem.Spec PyProof.Rows L2
open Evl (Ex)
/-! ### sorting, the function -/
section
variable {α : Type}
def sins (le : α → α → Bool) (x : α) : List α → List α
  | [] => [x]
  | y :: l => cond (le x y) (x :: y :: l) (y :: sins le x l)
def srt (le : α → α → Bool) : List α → List α
  | [] => []
  | x :: l => sins le x (srt le l)
theorem sins_perm (le : α → α → Bool) (x : α) : ∀ l, (sins le x l).Perm (x :: l)
  | [] => List.Perm.refl _
  | y :: l => by
    unfold sins
    cases le x y with
    | true => exact List.Perm.refl _
    | false => exact ((sins_perm le x l).cons y).trans (List.Perm.swap x y l)
theorem srt_perm (le : α → α → Bool) : ∀ l, (srt le l).Perm l
  | [] => List.Perm.refl _
  | x :: l => (sins_perm le x _).trans ((srt_perm le l).cons x)
structure Tot (le : α → α → Bool) : Prop where
  tot : ∀ x y, le x y = true ∨ le y x = true
  tr : ∀ x y z, le x y = true → le y z = true → le x z = true
  anti : ∀ x y, le x y = true → le y x = true → x = y
theorem sins_sorted {le : α → α → Bool} (T : Tot le) (x : α) : ∀ {l : List α}, l.Pairwise (fun a b => le a b = true) → (sins le x l).Pairwise (fun a b => le a b = true)
  | [], _ => List.pairwise_singleton _ _
  | y :: l, h => by
    obtain ⟨h1, h2⟩ := List.pairwise_cons.mp h
    unfold sins
    cases q : le x y with
    | true =>
      refine List.pairwise_cons.mpr ⟨fun z hz => ?_, h⟩
      rcases List.mem_cons.mp hz with rfl | hz
      · exact q
      · exact T.tr _ _ _ q (h1 z hz)
    | false =>
      refine List.pairwise_cons.mpr ⟨fun z hz => ?_, sins_sorted T x h2⟩
      rcases List.mem_cons.mp ((sins_perm le x l).mem_iff.mp hz) with rfl | hz
      · exact (T.tot z y).resolve_left (by rw [q]; exact Bool.false_ne_true)
      · exact h1 z hz
theorem srt_sorted {le : α → α → Bool} (T : Tot le) : ∀ l, (srt le l).Pairwise (fun a b => le a b = true)
  | [] => List.Pairwise.nil
  | x :: l => sins_sorted T x (srt_sorted T l)
theorem sorted_one {le : α → α → Bool} (T : Tot le) : ∀ {l m : List α}, l.Perm m → l.Pairwise (fun a b => le a b = true) → m.Pairwise (fun a b => le a b = true) → l = m
  | [], m, h, _, _ => (List.nil_perm.mp h).symm ▸ rfl
  | x :: l, [], h, _, _ => absurd h.length_eq (by simp)
  | x :: l, y :: m, h, h1, h2 => by
    obtain ⟨a1, a2⟩ := List.pairwise_cons.mp h1
    obtain ⟨b1, b2⟩ := List.pairwise_cons.mp h2
    have e : x = y := by
      rcases List.mem_cons.mp (h.mem_iff.mp List.mem_cons_self) with q | q
      · exact q
      · rcases List.mem_cons.mp (h.mem_iff.mpr List.mem_cons_self) with p | p
        · exact p.symm
        · exact T.anti _ _ (a1 y p) (b1 x q)
    subst e
    rw [sorted_one T h.cons_inv a2 b2]
theorem srt_of {le : α → α → Bool} (T : Tot le) {l m : List α} (h : l.Perm m) (hs : l.Pairwise (fun a b => le a b = true)) : l = srt le m := sorted_one T (h.trans (srt_perm le m).symm) hs (srt_sorted T m)
end
def leI (i j : Int) : Bool := decide (i ≤ j)
def leS (s t : Str) : Bool := !ltKey (.inr t) (.inr s)
def leP {α β : Type} [DecidableEq α] (la : α → α → Bool) (lb : β → β → Bool) (x y : α × β) : Bool := if x.1 = y.1 then lb x.2 y.2 else la x.1 y.1
theorem tot_leI : Tot leI := by
  refine ⟨fun x y => ?_, fun x y z h1 h2 => ?_, fun x y h1 h2 => ?_⟩
  · by_cases h : x ≤ y
    · exact .inl (decide_eq_true h)
    · exact .inr (decide_eq_true (by omega))
  · exact decide_eq_true (by have := of_decide_eq_true h1; have := of_decide_eq_true h2; omega)
  · have := of_decide_eq_true h1; have := of_decide_eq_true h2; omega
theorem tot_key {α : Type} (f : α → List Key) (hf : ∀ x y, f x = f y → x = y) : Tot (fun x y => !ltK (f y) (f x)) := by
  refine ⟨fun x y => ?_, fun x y z h1 h2 => ?_, fun x y h1 h2 => ?_⟩
  · cases h : ltK (f y) (f x) with
    | false => left; rfl
    | true => right; rw [ltK_asym h]; rfl
  · have a : ltK (f y) (f x) = false := by simpa using h1
    have b : ltK (f z) (f y) = false := by simpa using h2
    have := (ltK_swo (α := α) f).tr x y z a b
    show (!ltK (f z) (f x)) = true
    rw [this]; rfl
  · have a : ltK (f y) (f x) = false := by simpa using h1
    have b : ltK (f x) (f y) = false := by simpa using h2
    exact hf _ _ (ltK_tri b a)
/-- rows that are sorted by their keys -/
class RowK {α : Type} (R : α → Sh) (le : α → α → Bool) where
  f : α → List Key
  isI : Bool
  hR : ∀ x, R x = U ((f x).map fun k => Sc (kV k))
  inj : ∀ x y, f x = f y → x = y
  kinds : ∀ x y, Kinds (f x) (f y)
  first : ∀ x, ∃ a r, f x = a :: r ∧ (match a with | .inl _ => isI = true | .inr _ => isI = false)
  hle : ∀ x y, le x y = !ltK (f y) (f x)
theorem one_key {a b : Key} : (!ltK [a] [b]) = !ltKey a b := by
  unfold ltK
  by_cases h : a = b
  · rw [if_pos h, h, ltKey_irr]; rfl
  · rw [if_neg h]
theorem le_two {a b c d : Key} : (!ltK [c, d] [a, b]) = if a = c then !ltKey d b else !ltKey c a := by
  unfold ltK
  by_cases h : a = c
  · rw [if_pos h.symm, if_pos h, ← one_key]
  · rw [if_neg (fun z => h z.symm), if_neg h]
theorem leI_key {i j : Int} : leI i j = !ltKey (.inl j) (.inl i) := by
  show decide (i ≤ j) = !decide (j < i)
  by_cases h : i ≤ j
  · rw [decide_eq_true h, decide_eq_false (by omega)]; rfl
  · rw [decide_eq_false h, decide_eq_true (by omega)]; rfl
theorem ite_key {α : Type} [DecidableEq α] {g : α → Key} (hg : ∀ x y, g x = g y → x = y) {x y : α} {p q : Bool} : (if g x = g y then p else q) = if x = y then p else q := by
  by_cases h : x = y
  · rw [if_pos h, if_pos (by rw [h])]
  · rw [if_neg h, if_neg (fun z => h (hg _ _ z))]
instance rowIS : RowK (pr2 I Tx) (leP leI leS) := ⟨fun x => [.inl x.1, .inr x.2], true, fun _ => rfl, fun x y h => by injection h with h1 h2; injection h2 with h2; injection h1 with h1; injection h2 with h2; exact Prod.ext h1 h2, fun _ _ => ⟨trivial, trivial, trivial⟩, fun x => ⟨_, _, rfl, rfl⟩,
  fun x y => by rw [le_two, ite_key (g := fun i => (Sum.inl i : Key)) (fun _ _ h => Sum.inl.inj h), ← leI_key]; rfl⟩
instance rowSS : RowK (pr2 Tx Tx) (leP leS leS) := ⟨fun x => [.inr x.1, .inr x.2], false, fun _ => rfl, fun x y h => by injection h with h1 h2; injection h2 with h2; injection h1 with h1; injection h2 with h2; exact Prod.ext h1 h2, fun _ _ => ⟨trivial, trivial, trivial⟩, fun x => ⟨_, _, rfl, rfl⟩,
  fun x y => by rw [le_two, ite_key (g := fun i => (Sum.inr i : Key)) (fun _ _ h => Sum.inr.inj h)]; rfl⟩
instance rowII : RowK (pr2 I I) (leP leI leI) := ⟨fun x => [.inl x.1, .inl x.2], true, fun _ => rfl, fun x y h => by injection h with h1 h2; injection h2 with h2; injection h1 with h1; injection h2 with h2; exact Prod.ext h1 h2, fun _ _ => ⟨trivial, trivial, trivial⟩, fun x => ⟨_, _, rfl, rfl⟩,
  fun x y => by rw [le_two, ite_key (g := fun i => (Sum.inl i : Key)) (fun _ _ h => Sum.inl.inj h), ← leI_key, ← leI_key]; rfl⟩
instance rowSI : RowK (pr2 Tx I) (leP leS leI) := ⟨fun x => [.inr x.1, .inl x.2], false, fun _ => rfl, fun x y h => by injection h with h1 h2; injection h2 with h2; injection h1 with h1; injection h2 with h2; exact Prod.ext h1 h2, fun _ _ => ⟨trivial, trivial, trivial⟩, fun x => ⟨_, _, rfl, rfl⟩,
  fun x y => by rw [le_two, ite_key (g := fun i => (Sum.inr i : Key)) (fun _ _ h => Sum.inr.inj h), ← leI_key]; rfl⟩
theorem rowTot {α : Type} {R : α → Sh} {le : α → α → Bool} (h : RowK R le) : Tot le := by
  have e : le = fun x y => !ltK (h.f y) (h.f x) := by funext x y; exact h.hle x y
  rw [e]; exact tot_key h.f h.inj
theorem tot_leS : Tot leS := by
  have e : leS = fun x y => !ltK [.inr y] [.inr x] := by funext x y; rw [one_key]; rfl
  rw [e]
  exact tot_key (fun x => [.inr x]) fun x y h => by injection h with h; exact Sum.inr.inj h
/-- a rearrangement, told of the things themselves -/
theorem All2.perm {α β : Type} {R : α → β → Prop} {l l' : List α} {m : List β} (h : All2 R l m) (p : l.Perm l') : ∃ m', m.Perm m' ∧ All2 R l' m' := by
  induction p generalizing m with
  | nil => exact ⟨m, List.Perm.refl _, h⟩
  | cons x _ ih =>
    cases h with | cons a t =>
    obtain ⟨m', p', t'⟩ := ih t
    exact ⟨_, p'.cons _, .cons a t'⟩
  | swap x y l =>
    cases h with | cons a t =>
    cases t with | cons b t =>
    exact ⟨_, List.Perm.swap _ _ _, .cons b (.cons a t)⟩
  | trans _ _ ih1 ih2 =>
    obtain ⟨m1, p1, t1⟩ := ih1 h
    obtain ⟨m2, p2, t2⟩ := ih2 t1
    exact ⟨m2, p1.trans p2, t2⟩
section
variable {c : Cc} {X : Cx} {B0 F : Hp} {D : Ends} {Γ Γ0 Γ1 Γ2 Γ3 Γw : En} {ω ω1 ω2 ω3 ωo : Ws} {S T : Sh} {e o i t tg it a b d elt : Expr} {es : List Expr} {rest sts body : List Stmt} {x y : Str} {pos p p2 px py spos : Pos} {α β κ τ ρ ζ δ : Type} {R : α → Sh} {Rb : β → Sh} {Rs : α → Sh} {v w : α} {xs : List α} {ys : List β} {G : Hp → ζ → Prop} {l : Addr} {C : Co} {bb b1 b2 : Bool} {k j : Int}
theorem n_sort_I {ns : List Int} (ha : DE c Γ ω a (Sq bb I ns) ω1) (hm : c.M.mg "sorted" = none) (hg : Glo c.sc "sorted" := by exact rfl) (he : ∀ env, starEach [a] env = (false, eval a env) :: starEach [] env := by intro _; rfl) : DNc c Γ ω (.Call (.Name "sorted" p) [a] [] pos) (Cl I (srt leI ns)) ω1 := by
  refine DN.c (DNE.dn fun X fx F σ B H hE hO Q hQ => n_sortedB ha hm hg he X fx F σ B H hE hO Q fun l ys B' H' hy e1 O1 => hQ l ys B' H' ?_ e1 O1)
  exact srt_of tot_leI hy.1 (hy.2.imp fun {x y} h => decide_eq_true h)
theorem risingS_pw : ∀ {ys : List Str} {p : Str}, risingS p ys = true → (p :: ys).Pairwise (fun a b => leS a b = true) := by
  intro ys
  induction ys with
  | nil => intro p _; exact List.pairwise_singleton _ _
  | cons y r ih =>
    intro p h
    rw [risingS, Bool.and_eq_true] at h
    have h2 := ih h.2
    have h1 : leS p y = true := by rw [← h.1, ltCps_eq]; rfl
    refine List.pairwise_cons.mpr ⟨fun z hz => ?_, h2⟩
    rcases List.mem_cons.mp hz with rfl | hz
    · exact h1
    · exact tot_leS.tr _ _ _ h1 ((List.pairwise_cons.mp h2).1 z hz)
theorem sortedS_pw : ∀ {ys : List Str}, sortedS ys = true → ys.Pairwise (fun a b => leS a b = true)
  | [], _ => List.Pairwise.nil
  | _ :: _, h => risingS_pw h
theorem n_sort_S {ns : List Str} (hl : ns.length < 64) (ha : DE c Γ ω a (L Tx ns) ω1) (hm : c.M.mg "sorted" = none) (hg : Glo c.sc "sorted" := by exact rfl) (he : ∀ env, starEach [a] env = (false, eval a env) :: starEach [] env := by intro _; rfl) : DNc c Γ ω (.Call (.Name "sorted" p) [a] [] pos) (Cl Tx (srt leS ns)) ω1 := by
  intro X fx F σ B H hE hO Q hQ
  refine tW.of (pe_callB cr_sortedS (gl_of fx hg) (by rw [fx.mg]; exact hm) (by decide +kernel) pa_w (he := he _)) ?_
  refine a_cons ha a_nil he X fx F σ B H hE hO _ fun vs B1 H1 e1 O1 p1 => ?_
  obtain ⟨v, rfl, hv⟩ := all1 p1
  obtain ⟨a1, us, rfl, g1, g2⟩ := sq_get hv O1.ex
  have e := all_val (R := Tx) (f := V.str) (fun _ => rfl) g2
  subst e
  refine ⟨a1, ns, rfl, SqL.of g1, hl, fun ys q h1 h2 hq => ?_⟩
  have ey := srt_of tot_leS h1 (sortedS_pw h2)
  subst ey
  refine hQ q _ _ e1 (O1.cons hq (C := Cl Tx _) ⟨_, rfl, ?_⟩)
  clear h1 h2 hq
  induction srt leS ns with
  | nil => exact .nil
  | cons z zs ih => exact .cons rfl ih
theorem n_sortR {le : α → α → Bool} [K : RowK R le] (ha : DE c Γ ω a (L R xs) ω1) (hm : c.M.mg "sorted" = none) (hg : Glo c.sc "sorted" := by exact rfl) (he : ∀ env, starEach [a] env = (false, eval a env) :: starEach [] env := by intro _; rfl) : DNc c Γ ω (.Call (.Name "sorted" p) [a] [] pos) (Cl R (srt le xs)) ω1 := by
  intro X fx F σ B H hE hO Q hQ
  refine tW.of (pe_callB cr_sortedF (gl_of fx hg) (by rw [fx.mg]; exact hm) (by decide +kernel) pa_w (he := he _)) ?_
  refine a_cons ha a_nil he X fx F σ B H hE hO _ fun vs B1 H1 e1 O1 p1 => ?_
  obtain ⟨v, rfl, hv⟩ := all1 p1
  obtain ⟨a1, us, rfl, g1, g2⟩ := sq_get hv O1.ex
  -- the keys of a row, read off the heap
  let kf : V → List Key := fun v => match v with
    | .ref t => (match B1 t with
      | some (.tup zs) => zs.map fun z => match z with | .int i => Sum.inl i | .str s => Sum.inr s | _ => Sum.inl 0
      | _ => [])
    | _ => []
  have back : ∀ ks : List Key, (ks.map kV).map (fun z => match z with | .int i => (Sum.inl i : Key) | .str s => Sum.inr s | _ => Sum.inl 0) = ks := fun ks => by
    rw [List.map_map]
    refine (List.map_congr_left fun k _ => ?_).trans (List.map_id _)
    cases k <;> rfl
  have rowk : ∀ {v : V} {x : α}, (R x).p B1 v → ∃ t, v = .ref t ∧ B1 t = some (.tup ((K.f x).map kV)) ∧ kf v = K.f x := fun {v x} h => by
    rw [K.hR] at h
    obtain ⟨t, zs, rfl, h1, h2⟩ := h
    have e : zs = (K.f x).map kV := by
      clear h1
      have := All2.of_map h2
      clear h2
      generalize K.f x = ks at this ⊢
      induction this with
      | nil => rfl
      | cons h t ih => rw [List.map_cons, ← ih]; exact congrArg (· :: _) h
    subst e
    refine ⟨t, rfl, h1, ?_⟩
    show (match B1 t with | some (.tup zs) => zs.map _ | _ => []) = _
    rw [h1]
    exact back _
  have mem : ∀ {us : List V} {xs : List α}, All2 (fun v x => (R x).p B1 v) us xs → ∀ v ∈ us, ∃ x ∈ xs, (R x).p B1 v := by
    intro us xs h
    induction h with
    | nil => intro v hv; cases hv
    | cons h t ih =>
      intro v hv
      rcases List.mem_cons.mp hv with rfl | hv
      · exact ⟨_, List.mem_cons_self, h⟩
      · obtain ⟨x, h1, h2⟩ := ih v hv; exact ⟨x, List.mem_cons_of_mem _ h1, h2⟩
  refine ⟨a1, us, kf, K.isI, rfl, SqL.of g1, fun v hv => ?_, fun v hv u hu => ?_, fun v hv => ?_, fun ys q h1 h2 hq => ?_⟩
  · obtain ⟨x, _, hx⟩ := mem g2 v hv
    obtain ⟨t, rfl, r1, r2⟩ := rowk hx
    exact ⟨t, rfl, by rw [r2]; exact O1.ex _ _ r1⟩
  · obtain ⟨x, _, hx⟩ := mem g2 v hv
    obtain ⟨z, _, hz⟩ := mem g2 u hu
    obtain ⟨_, _, _, r2⟩ := rowk hx
    obtain ⟨_, _, _, r3⟩ := rowk hz
    rw [r2, r3]; exact K.kinds _ _
  · obtain ⟨x, _, hx⟩ := mem g2 v hv
    obtain ⟨_, _, _, r2⟩ := rowk hx
    rw [r2]; exact K.first x
  · obtain ⟨zs, p1, p2⟩ := g2.perm h1.symm
    have mem2 : ∀ {us : List V} {xs : List α}, All2 (fun v x => (R x).p B1 v) us xs → ∀ x ∈ xs, ∃ v ∈ us, (R x).p B1 v := by
      intro us xs h
      induction h with
      | nil => intro v hv; cases hv
      | cons h t ih =>
        intro v hv
        rcases List.mem_cons.mp hv with rfl | hv
        · exact ⟨_, List.mem_cons_self, h⟩
        · obtain ⟨x, h1, h2⟩ := ih v hv; exact ⟨x, List.mem_cons_of_mem _ h1, h2⟩
    have pw : zs.Pairwise (fun a b => le a b = true) := by
      clear p1 h1
      induction p2 with
      | nil => exact List.Pairwise.nil
      | cons h t ih =>
        obtain ⟨a1, a2⟩ := List.pairwise_cons.mp h2
        refine List.pairwise_cons.mpr ⟨fun z hz => ?_, ih a2⟩
        obtain ⟨u, hu, hR⟩ := mem2 t z hz
        have := a1 u hu
        obtain ⟨_, _, _, r2⟩ := rowk h
        obtain ⟨_, _, _, r3⟩ := rowk hR
        rw [r2, r3] at this
        rw [K.hle, this]; rfl
    have ez := srt_of (rowTot K) p1.symm pw
    subst ez
    exact hQ q _ _ e1 (O1.cons hq (C := Cl R _) ⟨_, rfl, p2⟩)
theorem keysS {Rv : β → Sh} {B : Hp} {us : List (Key × V)} {kvs : List (Str × β)} (h : All2 (DRel Tx Rv B) us kvs) : us.map (·.1) = (kvs.map Prod.fst).map Sum.inr := by
  induction h with
  | nil => rfl
  | cons h t ih =>
    rw [List.map_cons, List.map_cons, List.map_cons, ih]
    congr 1
    exact drel_key (f := Sum.inr) (Rk := Tx) (fun _ => rfl) h
theorem n_sortD_S {kvs : List (Str × β)} {Rv : β → Sh} [Cold c] (hl : kvs.length < 64) (ha : DE c Γ ω a (Dc Tx Rv kvs) ω1) (hm : c.M.mg "sorted" = none) (hg : Glo c.sc "sorted" := by exact rfl) (he : ∀ env, starEach [a] env = (false, eval a env) :: starEach [] env := by intro _; rfl) : DNc c Γ ω (.Call (.Name "sorted" p) [a] [] pos) (Cl Tx (srt leS (kvs.map Prod.fst))) ω1 := by
  intro X fx F σ B H hE hO Q hQ
  refine tW.of (pe_callB (call_sortedD fx.calm) (gl_of fx hg) (by rw [fx.mg]; exact hm) (by decide +kernel) pa_w (he := he _)) ?_
  refine a_cons ha a_nil he X fx F σ B H hE hO _ fun vs B1 H1 e1 O1 p1 => ?_
  obtain ⟨v, rfl, hv⟩ := all1 p1
  obtain ⟨a1, us, rfl, g1, g2⟩ := hv
  have hk : us.map (·.1) = (kvs.map Prod.fst).map Sum.inr := by
    exact keysS g2
  refine ⟨a1, us, _, rfl, .inl (O1.ex _ _ g1), hk, by rw [List.length_map]; exact hl, fun ys q h1 h2 hq => ?_⟩
  have ey := srt_of tot_leS h1 (sortedS_pw h2)
  subst ey
  refine hQ q _ _ e1 (O1.cons hq (C := Cl Tx _) ⟨_, rfl, ?_⟩)
  clear h1 h2 hq
  induction srt leS (kvs.map Prod.fst) with
  | nil => exact .nil
  | cons z zs ih => exact .cons rfl ih
end
end ZZ

set_option maxHeartbeats 2000000
/-! Y10: constants of the module and what is made of them; max, min with a default; small things. -/
namespace ZZ
open PySem PySem.Spec PyProof.Rows L2
open Evl (Ex)
/-- a list, a tuple that the module holds -/
def Mq (K : PySem.W.Frag) (bb : Bool) {α : Type} (R : α → Sh) (xs : List α) : Sh :=
  ⟨fun B u => ∃ a us, u = .ref a ∧ (∀ H, SqB K bb H a us) ∧ All2 (fun v x => (R x).p B v) us xs,
   fun e h => let ⟨a, us, h1, h2, h3⟩ := h; ⟨a, us, h1, h2, h3.mp fun _ _ q => (R _).mono e q⟩⟩
/-- the name's value is such a thing -/
def Kg (M : Mo) (x : Str) (S : Sh) : Prop := ∃ (v : V) (u : Value), M.mg x = some u ∧ RelV v u ∧ ∀ B, S.p B v
class Src (K : PySem.W.Frag) (S : Sh) (bb : outParam Bool) {α : outParam Type} (R : outParam (α → Sh)) (xs : outParam (List α)) : Prop where
  get : ∀ {B H : Hp} {v : V}, S.p B v → Ex B H → ∃ a us, v = .ref a ∧ SqB K bb H a us ∧ All2 (fun v x => (R x).p B v) us xs
instance srcS {K : PySem.W.Frag} {α : Type} {R : α → Sh} {xs : List α} {bb : Bool} : Src K (Sq bb R xs) bb R xs := ⟨fun {B H v} h e => by
  obtain ⟨a, us, rfl, h2, h3⟩ := h
  refine ⟨a, us, rfl, ?_, h3⟩
  cases bb with
  | true => exact SqL.of (e _ _ h2)
  | false => exact SqT.of (e _ _ h2)⟩
instance srcM {K : PySem.W.Frag} {α : Type} {R : α → Sh} {xs : List α} {bb : Bool} : Src K (Mq K bb R xs) bb R xs := ⟨fun {B H v} h _ => by
  obtain ⟨a, us, rfl, h2, h3⟩ := h
  exact ⟨a, us, rfl, h2 H, h3⟩⟩
section
variable {c : Cc} {X : Cx} {Γ : En} {ω ω1 ω2 ω3 : Ws} {S S2 : Sh} {e a b d : Expr} {x : Str} {pos p p2 tpos : Pos} {elts : List Expr} {kq : Nat} {α β : Type} {R : α → Sh} {Rb : β → Sh} {xs : List α} {ys : List β} {bb b1 b2 : Bool} {k j : Int} {l : Addr}
theorem d_glob (h : Kg c.M x S) (hg : Glo c.sc x := by exact rfl) (hd : (x == ("__debug__" : Str)) = false := by decide) : DE c Γ ω (.Name x pos) S ω := by
  intro X fx F σ B H hE hO Q hQ
  obtain ⟨v, u, h1, h2, h3⟩ := h
  exact tW.of (pe_glob (gl_of fx hg) (by rw [fx.mg]; exact h1) h2 hd) (hQ v B H (Ex.refl B) hO (h3 B))
theorem d_atG [Inhabited α] [s : Src c.M.K S bb R xs] (hk : okx xs k) (ha : DE c Γ ω a S ω1) (hb : DE c Γ ω1 b (I k) ω2) (hs : PlainIx b := by exact fun _ _ => rfl) : DE c Γ ω (.Subscript a b pos) (R (gt xs k)) ω2 := by
  intro X fx F σ B H hE hO Q hQ
  have go : ∀ (r : L2.R2), IxR X r → (∀ v u B2 H2, S.p B2 v → u = V.int k → Ex B2 H2 → (∀ z, (R (gt xs k)).p B2 z → Q z H2) → r v u H2 Q) → tW X (.Subscript a b pos) σ H Q := fun r hr hh => by
    refine tW.of (pe_ix hr pe_w pe_w hs) ?_
    refine ha X fx F σ B H hE hO _ fun v B1 H1 e1 O1 p1 => ?_
    refine hb X fx F σ B1 H1 (hE.mono e1) O1 _ fun u B2 H2 e2 O2 p2 => ?_
    exact hh v u B2 H2 (S.mono e2 p1) p2 O2.ex fun z q => hQ z B2 H2 (e1.trans e2) O2 q
  cases bb with
  | true =>
    refine go _ ix_list fun v u B2 H2 p1 p2 e q => ?_
    obtain ⟨a', vs, rfl, h2, h3⟩ := s.get p1 e
    obtain ⟨z, e1, e2⟩ := h3.atI (gt_at hk)
    exact ⟨a', vs, k, z, rfl, p2, by rw [fx.K]; exact h2, e1, q z e2⟩
  | false =>
    refine go _ ix_tup fun v u B2 H2 p1 p2 e q => ?_
    obtain ⟨a', vs, rfl, h2, h3⟩ := s.get p1 e
    obtain ⟨z, e1, e2⟩ := h3.atI (gt_at hk)
    exact ⟨a', vs, k, z, rfl, p2, by rw [fx.K]; exact h2, e1, q z e2⟩
theorem i_seqG [s : Src c.M.K S bb R xs] {tg it : Expr} (h : DE c Γ ω it S ω1) : DIl c Γ ω tg it xs R ω1 := by
  intro X fx F σ B H hE hO Q hR
  have hs := s
  rw [← fx.K] at hs
  cases bb with
  | true =>
    refine tI.of (pi_list pe_w) ?_
    refine h X fx F σ B H hE hO _ fun v B1 H1 e1 O1 p1 => ?_
    obtain ⟨a1, us, rfl, g0, g2⟩ := hs.get p1 O1.ex
    refine ⟨a1, rfl, ⟨us, g0⟩, hR _ B1 H1 e1 O1 fun B2 H2 e2 e3 => ?_⟩
    obtain ⟨a', us', ea, G, g2⟩ := hs.get (S.mono e2 p1) e3
    obtain rfl : a1 = a' := by injection ea
    have w := walk_list (K := X.K) (a := a1) (xs := us')
    rw [← g2.len]
    refine ⟨fun i hi => w.goes i H2 hi G, w.stops H2 G, fun i hi x H3 y => ?_⟩
    obtain ⟨rfl, q⟩ := w.yields i H2 x H3 hi G y
    obtain ⟨z, q1, q2⟩ := g2.get' q
    exact ⟨z, q1, .inl ⟨rfl, q2⟩⟩
  | false =>
    refine tI.of (pi_tup pe_w) ?_
    refine h X fx F σ B H hE hO _ fun v B1 H1 e1 O1 p1 => ?_
    obtain ⟨a1, us, rfl, g0, g2⟩ := hs.get p1 O1.ex
    refine ⟨a1, rfl, ⟨us, g0⟩, hR _ B1 H1 e1 O1 fun B2 H2 e2 e3 => ?_⟩
    obtain ⟨a', us', ea, G, g2⟩ := hs.get (S.mono e2 p1) e3
    obtain rfl : a1 = a' := by injection ea
    have w := walk_tup (K := X.K) (a := a1) (xs := us')
    rw [← g2.len]
    refine ⟨fun i hi => w.goes i H2 hi G, w.stops H2 G, fun i hi x H3 y => ?_⟩
    obtain ⟨rfl, q⟩ := w.yields i H2 x H3 hi G y
    obtain ⟨z, q1, q2⟩ := g2.get' q
    exact ⟨z, q1, .inl ⟨rfl, q2⟩⟩
theorem i_enmG [s : Src c.M.K S bb R xs] (h : DE c Γ ω a S ω1) (hm : c.M.mg "enumerate" = none) (hg : Glo c.sc "enumerate" := by exact rfl) (he : ∀ env, starEach [a] env = [(false, eval a env)] := by intro _; rfl) :
    DIl c Γ ω (.Tuple elts kq tpos) (.Call (.Name "enumerate" p) [a] [] pos) (enm xs) (pr2 I R) ω1 := by
  refine DI.lst (n := xs.length) (W := fun i (y : Int × α) => y.1 = (i : Int) ∧ xs[i]? = some y.2) ?_ _ len_enm fun i y hi hy => by rw [at_enm hy.2, ← hy.1]
  intro X fx F σ B H hE hO Q hR
  have hs := s
  rw [← fx.K] at hs
  refine tI.of (pi_enumG bb (gl_of fx hg) (by rw [fx.mg]; exact hm) pa_w (he _)) ?_
  refine a_cons h a_nil (by intro env; rw [he]; rfl) X fx F σ B H hE hO _ fun vs B1 H1 e1 O1 p1 => ?_
  obtain ⟨v, rfl, hv⟩ := all1 p1
  obtain ⟨a1, us, rfl, g0, _⟩ := hs.get hv O1.ex
  refine ⟨a1, us, rfl, g0, hR _ B1 H1 e1 O1 fun B2 H2 e2 e3 => ?_⟩
  obtain ⟨a', us', ea, G, g2⟩ := hs.get (S.mono e2 hv) e3
  obtain rfl : a1 = a' := by injection ea
  have hl := g2.len
  refine ⟨fun i hi => ⟨us', us'[i]'(by omega), G, by simp [show i < us'.length by omega]⟩, ⟨us', G, hl⟩, fun i hi x H3 y => ?_⟩
  obtain ⟨T, z, rfl, hT, rfl, hz⟩ := y
  obtain ⟨y, q1, q2⟩ := g2.get' (hz us' G)
  refine ⟨((i : Int), y), ⟨rfl, q1⟩, .inr ⟨T, _, hT, rfl, fun hB => ?_⟩⟩
  have e4 : Ex B2 (upd B2 T (.tup [.int (i : Nat), z])) := Ex.new hB
  exact ⟨T, _, rfl, upd_same, .cons rfl (.cons ((R y).mono e4 q2) .nil)⟩
theorem i_zipG [s : Src c.M.K S b1 R xs] [t : Src c.M.K S2 b2 Rb ys] (h : DE c Γ ω a S ω1) (h' : DE c Γ ω1 b S2 ω2) (hm : c.M.mg "zip" = none) (hg : Glo c.sc "zip" := by exact rfl) (he : ∀ env, starEach [a, b] env = (false, eval a env) :: starEach [b] env := by intro _; rfl) (he2 : ∀ env, starEach [b] env = (false, eval b env) :: starEach [] env := by intro _; rfl)
    (hpl : ∀ env, (backTo pos (starEach [b] env)).any (·.1) = false := by intro _; rfl) :
    DIl c Γ ω (.Tuple elts kq tpos) (.Call (.Name "zip" p) [a, b] [] pos) (List.zip xs ys) (pr2 R Rb) ω2 := by
  refine DI.lst (n := min xs.length ys.length) (W := fun i (y : α × β) => xs[i]? = some y.1 ∧ ys[i]? = some y.2) ?_ _ (by rw [List.length_zip]) fun i y hi hy => by rw [List.getElem?_zip_eq_some]; exact hy
  intro X fx F σ B H hE hO Q hR
  have hs := s
  have ht := t
  rw [← fx.K] at hs ht
  refine tI.of (pi_zipG b1 b2 (gl_of fx hg) (by rw [fx.mg]; exact hm) pa_w (he _) (hpl _)) ?_
  refine a_cons h (a_cons h' a_nil he2) he X fx F σ B H hE hO _ fun vs B1 H1 e1 O1 p1 => ?_
  obtain ⟨v, u, rfl, hv, hu⟩ := all2 p1
  obtain ⟨a1, us, rfl, g0, _⟩ := hs.get hv O1.ex
  obtain ⟨a2, ws, rfl, k0, _⟩ := ht.get hu O1.ex
  refine ⟨a1, a2, us, ws, rfl, g0, k0, hR _ B1 H1 e1 O1 fun B2 H2 e2 e3 => ?_⟩
  obtain ⟨a', us', ea, G, g2⟩ := hs.get (S.mono e2 hv) e3
  obtain rfl : a1 = a' := by injection ea
  obtain ⟨a', ws', ea, G2, k2⟩ := ht.get (S2.mono e2 hu) e3
  obtain rfl : a2 = a' := by injection ea
  have hl := g2.len
  have hl2 := k2.len
  refine ⟨fun i hi => ⟨us', ws', us'[i]'(by omega), ws'[i]'(by omega), G, G2, by simp [show i < us'.length by omega], by simp [show i < ws'.length by omega]⟩, ⟨us', ws', G, G2, by omega, by omega, by omega⟩, fun i hi x H3 y => ?_⟩
  obtain ⟨T, z, z2, rfl, hT, rfl, hz, hz2⟩ := y
  obtain ⟨y, q1, q2⟩ := g2.get' (hz us' G)
  obtain ⟨y2, r1, r2⟩ := k2.get' (hz2 ws' G2)
  refine ⟨(y, y2), ⟨q1, r1⟩, .inr ⟨T, _, hT, rfl, fun hB => ?_⟩⟩
  have e4 : Ex B2 (upd B2 T (.tup [z, z2])) := Ex.new hB
  exact ⟨T, _, rfl, upd_same, .cons ((R y).mono e4 q2) (.cons ((Rb y2).mono e4 r2) .nil)⟩

/-! ### max, min with a default -/
def mxd (ns : List Int) (d : Int) : Int := if ns = [] then d else mxl ns
def mnd (ns : List Int) (d : Int) : Int := if ns = [] then d else mnl ns
def mno (ns : List Int) : Option Int := if ns = [] then none else some (mnl ns)
def mxo (ns : List Int) : Option Int := if ns = [] then none else some (mxl ns)
def rMx (K : PySem.W.Frag) (lo : Bool) : List V → List V → Hp → VK → Prop := fun xs zs H Q => ∃ (bb : Bool) (a : Addr) (ns : List Int) (d : V), xs = [.ref a] ∧ zs = [d] ∧ SqB K bb H a (ns.map V.int) ∧ (∀ m, m ∈ ns → (∀ y ∈ ns, if lo then m ≤ y else y ≤ m) → Q (.int m) H) ∧ (ns = [] → Q d H)
theorem call_mxD (hc : X.calm = true) : CallRK X (.builtin "max") [Str.ofString "default"] (rMx X.K false) := by
  intro pins s σ H xs zs us ws Q I rx rz h
  obtain ⟨bb, a, ns, d, rfl, rfl, hs, h1, h2⟩ := h
  obtain ⟨u, rfl, r⟩ := Vals.one rx
  obtain ⟨w, rfl, r'⟩ := Vals.one rz
  cases (show u = Value.ref a from r)
  exact max_run (kw := [(Str.ofString "default", w)]) hc I (.inr ⟨w, rfl⟩) (fun _ h => nomatch h) hs (fun m m1 m2 => h1 m m1 m2) fun e => ⟨d, r', h2 e⟩
theorem call_mnD (hc : X.calm = true) : CallRK X (.builtin "min") [Str.ofString "default"] (rMx X.K true) := by
  intro pins s σ H xs zs us ws Q I rx rz h
  obtain ⟨bb, a, ns, d, rfl, rfl, hs, h1, h2⟩ := h
  obtain ⟨u, rfl, r⟩ := Vals.one rx
  obtain ⟨w, rfl, r'⟩ := Vals.one rz
  cases (show u = Value.ref a from r)
  exact min_run (kw := [(Str.ofString "default", w)]) hc I (.inr ⟨w, rfl⟩) (fun _ h => nomatch h) hs (fun m m1 m2 => h1 m m1 m2) fun e => ⟨d, r', h2 e⟩
theorem d_mxG [Cold c] {f : Str} {id : String} {lo : Bool} {ns : List Int} {S T : Sh} {k1 : Pos} (hcl : ∀ X : Cx, X.calm = true → CallRK X (.builtin id) [Str.ofString "default"] (rMx X.K lo)) (hv : bootBuiltins f = some (.builtin id)) (hd1 : f ≠ "__name__") (hd2 : (f == ("__debug__" : Str)) = false)
    (ha : DE c Γ ω a (Sq bb I ns) ω1) (hd : DE c Γ ω1 d S ω2) (hm : c.M.mg f = none) (hg : Glo c.sc f) (h1 : ∀ m B, m ∈ ns → (∀ y ∈ ns, if lo then m ≤ y else y ≤ m) → T.p B (.int m)) (h2 : ∀ v B, ns = [] → S.p B v → T.p B v)
    (hes : ∀ env, starEach [a] env = (false, eval a env) :: starEach [] env)
    (he : ∀ env, backTo pos (starEach [a] env) = (false, eval a env) :: backTo pos (starEach [] env)) (hpl : ∀ env, (backTo pos (starEach [a] env)).any (·.1) = false)
    (hall : ∀ env, (backToKw pos (keywordEach [⟨some "default", d, k1⟩] env)).all (·.1.isSome) = true) (hnone : ∀ env, (backToKw pos (keywordEach [⟨some "default", d, k1⟩] env)).any (·.1.isNone) = false) (hks : ∀ env, (backToKw pos (keywordEach [⟨some "default", d, k1⟩] env)).filterMap (·.1) = [Str.ofString "default"]) :
    DE c Γ ω (.Call (.Name f p) [a] [⟨some "default", d, k1⟩] pos) T ω2 := by
  intro X fx F σ B H hE hO Q hQ
  refine tW.of (pe_callBK (hcl X fx.calm) (gl_of fx hg) (by rw [fx.mg]; exact hm) hv pa_w (pk_cons pe_w pk_nil) hd1 hd2 (he _) (hpl _) (hall _) (hnone _) (hks _)) ?_
  refine a_cons ha a_nil hes X fx F σ B H hE hO _ fun vs B1 H1 e1 O1 p1 => ?_
  obtain ⟨v, rfl, hv⟩ := all1 p1
  obtain ⟨a1, us, rfl, g1, g2⟩ := sq_ho hv
  refine hd X fx F σ B1 H1 (hE.mono e1) O1 _ fun z B2 H2 e2 O2 p2 => ?_
  have e := all_val (R := I) (f := V.int) (fun _ => rfl) g2
  subst e
  refine ⟨bb, a1, ns, z, rfl, rfl, ?_, fun m m1 m2 => hQ _ B2 H2 (e1.trans e2) O2 (h1 m B2 m1 m2), fun e => hQ _ B2 H2 (e1.trans e2) O2 (h2 z B2 e p2)⟩
  cases bb with
  | true => exact SqL.of (O2.ex _ _ (e2 _ _ g1))
  | false => exact SqT.of (O2.ex _ _ (e2 _ _ g1))
/-- a plain argument -/
def PlainA (a : Expr) (pos : Pos) : Prop := (∀ env, starEach [a] env = (false, eval a env) :: starEach [] env) ∧ (∀ env, backTo pos (starEach [a] env) = (false, eval a env) :: backTo pos (starEach [] env)) ∧ ∀ env, (backTo pos (starEach [a] env)).any (·.1) = false
def PlainD (d : Expr) (pos k1 : Pos) : Prop := (∀ env, (backToKw pos (keywordEach [⟨some "default", d, k1⟩] env)).all (·.1.isSome) = true) ∧ (∀ env, (backToKw pos (keywordEach [⟨some "default", d, k1⟩] env)).any (·.1.isNone) = false) ∧ ∀ env, (backToKw pos (keywordEach [⟨some "default", d, k1⟩] env)).filterMap (·.1) = [Str.ofString "default"]
theorem mxl_max {ns : List Int} {m : Int} (h1 : m ∈ ns) (h2 : ∀ y ∈ ns, y ≤ m) : mxl ns = m := by
  have := mxl_spec (List.ne_nil_of_mem h1)
  have a := h2 _ this.1
  have b := this.2 _ h1
  omega
theorem mnl_min {ns : List Int} {m : Int} (h1 : m ∈ ns) (h2 : ∀ y ∈ ns, m ≤ y) : mnl ns = m := by
  have := mnl_spec (List.ne_nil_of_mem h1)
  have a := h2 _ this.1
  have b := this.2 _ h1
  omega
theorem d_maxD [Cold c] {ns : List Int} {k1 : Pos} (ha : DE c Γ ω a (Sq bb I ns) ω1) (hd : DE c Γ ω1 d (I k) ω2) (hm : c.M.mg "max" = none) (hg : Glo c.sc "max" := by exact rfl) (hpa : PlainA a pos := by exact ⟨fun _ => rfl, fun _ => rfl, fun _ => rfl⟩) (hpd : PlainD d pos k1 := by exact ⟨fun _ => rfl, fun _ => rfl, fun _ => rfl⟩) : DE c Γ ω (.Call (.Name "max" p) [a] [⟨some "default", d, k1⟩] pos) (I (mxd ns k)) ω2 :=
  d_mxG (lo := false) (fun X h => call_mxD h) (by decide +kernel) (by decide) (by decide) ha hd hm hg (fun m B h1 h2 => by
    show V.int m = V.int _
    rw [mxd, if_neg (List.ne_nil_of_mem h1), mxl_max h1 (fun y hy => by simpa using h2 y hy)]) (fun v B h1 h2 => by rw [mxd, if_pos h1]; exact h2) hpa.1 hpa.2.1 hpa.2.2 hpd.1 hpd.2.1 hpd.2.2
theorem d_minD [Cold c] {ns : List Int} {k1 : Pos} (ha : DE c Γ ω a (Sq bb I ns) ω1) (hd : DE c Γ ω1 d (I k) ω2) (hm : c.M.mg "min" = none) (hg : Glo c.sc "min" := by exact rfl) (hpa : PlainA a pos := by exact ⟨fun _ => rfl, fun _ => rfl, fun _ => rfl⟩) (hpd : PlainD d pos k1 := by exact ⟨fun _ => rfl, fun _ => rfl, fun _ => rfl⟩) : DE c Γ ω (.Call (.Name "min" p) [a] [⟨some "default", d, k1⟩] pos) (I (mnd ns k)) ω2 :=
  d_mxG (lo := true) (fun X h => call_mnD h) (by decide +kernel) (by decide) (by decide) ha hd hm hg (fun m B h1 h2 => by
    show V.int m = V.int _
    rw [mnd, if_neg (List.ne_nil_of_mem h1), mnl_min h1 (fun y hy => by simpa using h2 y hy)]) (fun v B h1 h2 => by rw [mnd, if_pos h1]; exact h2) hpa.1 hpa.2.1 hpa.2.2 hpd.1 hpd.2.1 hpd.2.2
theorem d_minN [Cold c] {ns : List Int} {k1 p3 : Pos} {kd : Nat} (ha : DE c Γ ω a (Sq bb I ns) ω1) (hm : c.M.mg "min" = none) (hg : Glo c.sc "min" := by exact rfl) (hpa : PlainA a pos := by exact ⟨fun _ => rfl, fun _ => rfl, fun _ => rfl⟩) (hpd : PlainD (.Constant .none kd p3) pos k1 := by exact ⟨fun _ => rfl, fun _ => rfl, fun _ => rfl⟩) : DE c Γ ω (.Call (.Name "min" p) [a] [⟨some "default", .Constant .none kd p3, k1⟩] pos) (Oq I (mno ns)) ω1 :=
  d_mxG (lo := true) (S := No) (fun X h => call_mnD h) (by decide +kernel) (by decide) (by decide) ha d_none hm hg (fun m B h1 h2 => by
    rw [mno, if_neg (List.ne_nil_of_mem h1), mnl_min h1 (fun y hy => by simpa using h2 y hy)]; exact rfl) (fun v B h1 h2 => by rw [mno, if_pos h1]; exact h2) hpa.1 hpa.2.1 hpa.2.2 hpd.1 hpd.2.1 hpd.2.2
theorem d_maxN [Cold c] {ns : List Int} {k1 p3 : Pos} {kd : Nat} (ha : DE c Γ ω a (Sq bb I ns) ω1) (hm : c.M.mg "max" = none) (hg : Glo c.sc "max" := by exact rfl) (hpa : PlainA a pos := by exact ⟨fun _ => rfl, fun _ => rfl, fun _ => rfl⟩) (hpd : PlainD (.Constant .none kd p3) pos k1 := by exact ⟨fun _ => rfl, fun _ => rfl, fun _ => rfl⟩) : DE c Γ ω (.Call (.Name "max" p) [a] [⟨some "default", .Constant .none kd p3, k1⟩] pos) (Oq I (mxo ns)) ω1 :=
  d_mxG (lo := false) (S := No) (fun X h => call_mxD h) (by decide +kernel) (by decide) (by decide) ha d_none hm hg (fun m B h1 h2 => by
    rw [mxo, if_neg (List.ne_nil_of_mem h1), mxl_max h1 (fun y hy => by simpa using h2 y hy)]; exact rfl) (fun v B h1 h2 => by rw [mxo, if_pos h1]; exact h2) hpa.1 hpa.2.1 hpa.2.2 hpd.1 hpd.2.1 hpd.2.2

/-! ### list(range(..)) -/
theorem pw_rg {X : Cx} {e : Expr} {te : L2.St → Hp → (Int → Int → Hp → Prop) → Prop} {σ : L2.St} {H : Hp} {Q : VK} (hc : X.calm = true) (hg : Gl X "list") (hm : X.mg "list" = none) (he : PRg X e te) (na : starEach [e] X.env = (false, eval e X.env) :: starEach [] X.env) (h : tLstRg te σ H Q) : tW X (.Call (.Name "list" p) [e] [] pos) σ H Q :=
  tW.of (pe_listRg hc hg hm he na) h
theorem own_rng {F : Hp} {B H : Hp} {q : Addr} (O : Own F ω B H) (hq : H q = none) : Own F ((q, Cl I (rng k j)) :: ω) B (upd H q (.lst (rgV k j))) := by
  refine O.cons hq (C := Cl I _) ⟨_, rfl, ?_⟩
  have e : rgV k j = (rng k j).map V.int := by unfold rgV rng; rw [List.map_map]; rfl
  rw [e]
  generalize rng k j = zs
  induction zs with
  | nil => exact .nil
  | cons z zs ih => exact .cons rfl ih
theorem n_lrng1 [Cold c] (hj : okr 0 j) (hz : j ≤ 16777216) (ha : DE c Γ ω a (I j) ω1) (hm : c.M.mg "range" = none) (hm2 : c.M.mg "list" = none) (hg : Glo c.sc "range" := by exact rfl) (hg2 : Glo c.sc "list" := by exact rfl) (he : ∀ env, starEach [a] env = (false, eval a env) :: starEach [] env := by intro _; rfl)
    (he2 : ∀ env, starEach [Expr.Call (.Name "range" p2) [a] [] tpos] env = (false, eval (.Call (.Name "range" p2) [a] [] tpos) env) :: starEach [] env := by intro _; rfl) : DNc c Γ ω (.Call (.Name "list" p) [.Call (.Name "range" p2) [a] [] tpos] [] pos) (Cl I (rng 0 j)) ω1 := by
  obtain ⟨_, _, h1, h2⟩ := hj
  intro X fx F σ B H hE hO Q hQ
  refine pw_rg fx.calm (gl_of fx hg2) (by rw [fx.mg]; exact hm2) (prg_1 (gl_of fx hg) (by rw [fx.mg]; exact hm) pe_w (he _)) (he2 _) ?_
  refine ha X fx F σ B H hE hO _ fun v B1 H1 e1 O1 p1 => ⟨j, p1, ⟨by omega, by omega, by omega, by omega, by omega⟩, fun q hq => hQ q _ _ e1 (own_rng O1 hq)⟩
theorem n_lrng2 [Cold c] (hj : okr k j) (hz : j - k ≤ 16777216) (ha : DE c Γ ω a (I k) ω1) (hb : DE c Γ ω1 b (I j) ω2) (hm : c.M.mg "range" = none) (hm2 : c.M.mg "list" = none) (hg : Glo c.sc "range" := by exact rfl) (hg2 : Glo c.sc "list" := by exact rfl) (he : ∀ env, starEach [a, b] env = (false, eval a env) :: starEach [b] env := by intro _; rfl)
    (heb : ∀ env, starEach [b] env = (false, eval b env) :: starEach [] env := by intro _; rfl) (hpl : ∀ env, (backTo tpos (starEach [b] env)).any (·.1) = false := by intro _; rfl)
    (he2 : ∀ env, starEach [Expr.Call (.Name "range" p2) [a, b] [] tpos] env = (false, eval (.Call (.Name "range" p2) [a, b] [] tpos) env) :: starEach [] env := by intro _; rfl) : DNc c Γ ω (.Call (.Name "list" p) [.Call (.Name "range" p2) [a, b] [] tpos] [] pos) (Cl I (rng k j)) ω2 := by
  obtain ⟨h3, h4, h1, h2⟩ := hj
  intro X fx F σ B H hE hO Q hQ
  refine pw_rg fx.calm (gl_of fx hg2) (by rw [fx.mg]; exact hm2) (prg_2 (gl_of fx hg) (by rw [fx.mg]; exact hm) pe_w pe_w (he _) (heb _) (hpl _)) (he2 _) ?_
  refine ha X fx F σ B H hE hO _ fun v B1 H1 e1 O1 p1 => ?_
  refine hb X fx F σ B1 H1 (hE.mono e1) O1 _ fun u B2 H2 e2 O2 p2 => ⟨k, j, p1, p2, ⟨by omega, by omega, by omega, by omega, by omega⟩, fun q hq => hQ q _ _ (e1.trans e2) (own_rng O2 hq)⟩
/-! ### a list repeated -/
def rep (xs : List α) (k : Int) : List α := (List.replicate k.toNat xs).flatten
def okrep (xs : List α) (k : Int) : Prop := -(2 ^ 63) ≤ k ∧ k < 2 ^ 63 ∧ xs.length * k.toNat ≤ 16777216
theorem all2_rep {B : Hp} {us : List V} (h : All2 (fun v x => (R x).p B v) us xs) : ∀ n, All2 (fun v x => (R x).p B v) (List.replicate n us).flatten (List.replicate n xs).flatten
  | 0 => .nil
  | n + 1 => by
    rw [List.replicate_succ, List.replicate_succ, List.flatten_cons, List.flatten_cons]
    exact All2.append h (all2_rep h n)
theorem n_rep (hk : okrep xs k) (ha : DE c Γ ω a (L R xs) ω1) (hb : DE c Γ ω1 b (I k) ω2) : DNc c Γ ω (.BinOp a .Mult b pos) (Cl R (rep xs k)) ω2 := by
  intro X fx F σ B H hE hO Q hQ
  refine tW.of (pe_op (op := .Mult) op_rep pe_w pe_w) ?_
  refine ha X fx F σ B H hE hO _ fun v B1 H1 e1 O1 p1 => ?_
  refine hb X fx F σ B1 H1 (hE.mono e1) O1 _ fun u B2 H2 e2 O2 p2 => ?_
  obtain ⟨a1, us, rfl, g1, g2⟩ := sq_get p1 (Ex.refl _)
  have hl := g2.len
  refine ⟨a1, k, us, rfl, p2, O2.ex _ _ (e2 _ _ g1), hk.1, hk.2.1, by rw [hl]; exact hk.2.2, fun q hq => hQ q _ _ (e1.trans e2) (O2.cons hq (C := Cl R _) ⟨_, rfl, all2_rep (g2.mp fun _ _ z => (R _).mono e2 z) _⟩)⟩
end
/-- a list as one of which some may be missing -/
theorem d_some {c : Cc} {Γ : En} {ω ω1 : Ws} {e : Expr} {bb : Bool} {α : Type} {R : α → Sh} {xs : List α} (h : DE c Γ ω e (Sq bb R xs) ω1) : DE c Γ ω e (Sq bb (Oq R) (xs.map some)) ω1 := by
  refine h.wide fun B v p => ?_
  obtain ⟨a, vs, rfl, h1, h2⟩ := p
  refine ⟨a, vs, rfl, h1, ?_⟩
  clear h1 h
  induction h2 with
  | nil => exact .nil
  | cons h t ih => exact .cons h ih
end ZZ

set_option maxHeartbeats 2000000
/-! Y11: equality of data, pairs compared, a text in a text. -/
namespace ZZ
open PySem PySem.Spec PyProof.Rows L2
open Evl (Ex)
/-! ### equality of data -/
class EqD {α : Type} (R : α → Sh) where
  d : α → PyData
  ok : α → Prop
  n : Nat
  hok : ∀ x, ok x → PyData.canLay0 (d x) = true
  hdep : ∀ x, PyData.depth (d x) ≤ n
  inj : ∀ x y, PyData.eqv (d x) (d y) = true ↔ x = y
  dp : ∀ {K : PySem.W.Frag} {B H : Hp} {v : V} {x : α}, (R x).p B v → Ex B H → Dp K H v (d x)
/-- the thing is of the plain kind -/
def okE {α : Type} (R : α → Sh) [E : EqD R] (x : α) : Prop := E.ok x
instance eqI : EqD I := ⟨.int, fun _ => True, 0, fun _ _ => rfl, fun _ => Nat.le_refl _, fun x y => by simp [PyData.eqv], fun {K B H v x} h _ => by cases (show v = V.int x from h); exact .int x⟩
instance eqS : EqD Tx := ⟨.str, fun s => PyData.strOk s = true, 0, fun _ h => by simpa [PyData.canLay0] using h, fun _ => Nat.le_refl _, fun x y => by simp [PyData.eqv], fun {K B H v x} h _ => by cases (show v = V.str x from h); exact .str x⟩
section
variable {α β : Type} {R : α → Sh} {Rb : β → Sh}
theorem dpAll [E : EqD R] {K : PySem.W.Frag} {B H : Hp} (e : Ex B H) {us : List V} {xs : List α} (h : All2 (fun v x => (R x).p B v) us xs) : DpAll K H us (xs.map E.d) := by
  induction h with
  | nil => exact .nil
  | cons h t ih => exact .cons (E.dp h e) ih
theorem layAll [E : EqD R] : ∀ {xs : List α}, (∀ x ∈ xs, E.ok x) → PyData.canLayAll0 (xs.map E.d) = true
  | [], _ => rfl
  | x :: xs, h => by
    rw [List.map_cons, PyData.canLayAll0, E.hok x (h x List.mem_cons_self), layAll fun y hy => h y (List.mem_cons_of_mem _ hy)]; rfl
theorem depAll [E : EqD R] : ∀ {xs : List α}, PyData.depthAll (xs.map E.d) ≤ E.n
  | [] => Nat.zero_le _
  | x :: xs => by
    rw [List.map_cons, PyData.depthAll]
    exact Nat.max_le.mpr ⟨E.hdep x, depAll⟩
theorem eqvAll_iff [E : EqD R] : ∀ {xs ys : List α}, PyData.eqvAll (xs.map E.d) (ys.map E.d) = true ↔ xs = ys
  | [], [] => by simp [PyData.eqvAll]
  | [], y :: ys => by simp [PyData.eqvAll]
  | x :: xs, [] => by simp [PyData.eqvAll]
  | x :: xs, y :: ys => by
    rw [List.map_cons, List.map_cons, PyData.eqvAll, Bool.and_eq_true, E.inj, eqvAll_iff]
    simp
instance eqSq {bb : Bool} [E : EqD R] : EqD (Sq bb R) := ⟨fun xs => if bb then .list (xs.map E.d) else .tuple (xs.map E.d), fun xs => ∀ x ∈ xs, E.ok x, E.n + 1,
  fun xs h => by cases bb <;> simpa [PyData.canLay0] using layAll h,
  fun xs => by cases bb <;> simpa [PyData.depth] using depAll,
  fun xs ys => by cases bb <;> simpa [PyData.eqv] using eqvAll_iff,
  fun {K B H v x} h e => by
    obtain ⟨a, us, rfl, h1, h2⟩ := h
    cases bb with
    | true => exact .lst (SqL.of (e _ _ h1)) (dpAll e h2)
    | false => exact .tup (SqT.of (e _ _ h1)) (dpAll e h2)⟩
instance eqP {Rb : β → Sh} [E : EqD R] [E2 : EqD Rb] : EqD (pr2 R Rb) := ⟨fun x => .tuple [E.d x.1, E2.d x.2], fun x => E.ok x.1 ∧ E2.ok x.2, max E.n E2.n + 1,
  fun x h => by simp [PyData.canLay0, PyData.canLayAll0, E.hok _ h.1, E2.hok _ h.2],
  fun x => by
    have h1 := E.hdep x.1
    have h2 := E2.hdep x.2
    simp only [PyData.depth, PyData.depthAll]
    omega,
  fun x y => by
    obtain ⟨a, b⟩ := x
    obtain ⟨a', b'⟩ := y
    simp [PyData.eqv, PyData.eqvAll, E.inj, E2.inj],
  fun {K B H v x} h e => by
    obtain ⟨a, us, rfl, h1, h2⟩ := h
    cases h2 with | cons p t =>
    cases t with | cons q t =>
    cases t
    exact .tup (SqT.of (e _ _ h1)) (.cons (E.dp p e) (.cons (E2.dp q e) .nil))⟩
end
section
variable {c : Cc} {X : Cx} {Γ : En} {ω ω1 ω2 : Ws} {a b : Expr} {pos p : Pos} {α : Type} {R : α → Sh} {x y : α}
theorem shaped_ok [E : EqD R] (hn : E.n ≤ 64) (h : okE R x) : SeqAt.shaped (E.d x) = true := by
  unfold SeqAt.shaped
  rw [E.hok x h, decide_eq_true (Nat.le_trans (E.hdep x) hn)]; rfl
theorem eqv_dec [DecidableEq α] [E : EqD R] : PyData.eqv (E.d x) (E.d y) = decide (x = y) := by
  by_cases h : x = y
  · rw [decide_eq_true h]; exact (E.inj x y).mpr h
  · rw [decide_eq_false h]
    cases q : PyData.eqv (E.d x) (E.d y) with
    | false => rfl
    | true => exact absurd ((E.inj x y).mp q) h
theorem rr_eqV [DecidableEq α] [E : EqD R] {K : PySem.W.Frag} (hn : E.n ≤ 64) (h1 : okE R x) (h2 : okE R y) : RR (rEqD K) (R x) (R y) (Bo (decide (x = y))) := fun F ω B H v u p1 p2 O Q hQ =>
  ⟨_, _, E.dp p1 O.ex, E.dp p2 O.ex, shaped_ok hn h1, shaped_ok hn h2, by rw [eqv_dec]; exact hQ _ B H (Ex.refl B) O rfl⟩
theorem rr_neV [DecidableEq α] [E : EqD R] {K : PySem.W.Frag} (hn : E.n ≤ 64) (h1 : okE R x) (h2 : okE R y) : RR (rNeD K) (R x) (R y) (Bo (!decide (x = y))) := fun F ω B H v u p1 p2 O Q hQ =>
  ⟨_, _, E.dp p1 O.ex, E.dp p2 O.ex, shaped_ok hn h1, shaped_ok hn h2, by rw [eqv_dec]; exact hQ _ B H (Ex.refl B) O rfl⟩
theorem d_eqV [Cold c] [DecidableEq α] [E : EqD R] (h : okE R x ∧ okE R y) (ha : DE c Γ ω a (R x) ω1) (hb : DE c Γ ω1 b (R y) ω2) (hn : E.n ≤ 64 := by decide) : DE c Γ ω (.Compare a [.Eq] [b] pos) (Bo (decide (x = y))) ω2 :=
  d_cmp (r := rEqD c.M.K) (fun X fx => by rw [← fx.K]; exact op_eqD fx.room.units) ha hb (rr_eqV hn h.1 h.2) (nomark _)
theorem d_neV [Cold c] [DecidableEq α] [E : EqD R] (h : okE R x ∧ okE R y) (ha : DE c Γ ω a (R x) ω1) (hb : DE c Γ ω1 b (R y) ω2) (hn : E.n ≤ 64 := by decide) : DE c Γ ω (.Compare a [.NotEq] [b] pos) (Bo (!decide (x = y))) ω2 :=
  d_cmp (r := rNeD c.M.K) (fun X fx => by rw [← fx.K]; exact op_neD fx.room.units) ha hb (rr_neV hn h.1 h.2) (nomark _)
theorem t_eqV [Cold c] [DecidableEq α] [E : EqD R] (h : okE R x ∧ okE R y) (ha : DE c Γ ω a (R x) ω1) (hb : DE c Γ ω1 b (R y) ω2) (hn : E.n ≤ 64 := by decide) : DT c Γ ω (.Compare a [.Eq] [b] pos) (· = decide (x = y)) ω2 :=
  t_cmp (r := rEqD c.M.K) (fun X fx => by rw [← fx.K]; exact op_eqD fx.room.units) ha hb ((rr_eqV hn h.1 h.2).wide Sle.tb) (nomark _)
theorem t_neV [Cold c] [DecidableEq α] [E : EqD R] (h : okE R x ∧ okE R y) (ha : DE c Γ ω a (R x) ω1) (hb : DE c Γ ω1 b (R y) ω2) (hn : E.n ≤ 64 := by decide) : DT c Γ ω (.Compare a [.NotEq] [b] pos) (· = !decide (x = y)) ω2 :=
  t_cmp (r := rNeD c.M.K) (fun X fx => by rw [← fx.K]; exact op_neD fx.room.units) ha hb ((rr_neV hn h.1 h.2).wide Sle.tb) (nomark _)

/-! ### pairs of numbers compared -/
def ltp (x y : Int × Int) : Bool := decide (x.1 < y.1) || (decide (x.1 = y.1) && decide (x.2 < y.2))
def rGtP (K : PySem.W.Frag) (up : Bool) : R2 := fun x y H Q => ∃ a b i j k l, x = .ref a ∧ y = .ref b ∧ SqT K H a [.int i, .int j] ∧ SqT K H b [.int k, .int l] ∧ Q (.bl (if up then ltp (k, l) (i, j) else ltp (i, j) (k, l))) H
theorem two_of {its : List Value} {i j : Int} (h : Vals [.int i, .int j] its) : ∃ t u, its = [.int i t, .int j u] := by
  cases h with | cons r h =>
  cases h with | cons r' h =>
  cases h
  obtain ⟨t, rfl⟩ := r
  obtain ⟨u, rfl⟩ := r'
  exact ⟨t, u, rfl⟩
theorem op_gtP (hu : X.A.units < cLine) : OpR X (compareOp .Gt) (rGtP X.K true) := by
  intro pins s σ H x y v u Q I rx ry h
  obtain ⟨a, b, i, j, k, l, rfl, rfl, ha, hb, q⟩ := h
  cases rx
  cases ry
  obtain ⟨its, r1, p1, _⟩ := I.tuple ha
  obtain ⟨its2, r2, p2, _⟩ := I.tuple hb
  obtain ⟨t1, t2, rfl⟩ := two_of r1
  obtain ⟨t3, t4, rfl⟩ := two_of r2
  have := Ob.RcOp.tuples_gt (A := X.A) (s := s) (e := fun n => if n = 0 then i == k else j == l) (r := fun n => if n = 0 then decide (k < i) else decide (l < j)) p1 p2 hu
    (fun n h1 h2 => by
      have : n = 0 ∨ n = 1 := by simp at h1; omega
      rcases this with rfl | rfl
      · exact SeqAt.EqAt.int_int _ _ _ _
      · exact SeqAt.EqAt.int_int _ _ _ _)
    (fun n h1 h2 _ => by
      have : n = 0 ∨ n = 1 := by simp at h1; omega
      rcases this with rfl | rfl
      · exact Ob.RcOp.gt_int _ _ _ _
      · exact Ob.RcOp.gt_int _ _ _ _)
  refine this _ _ _ _ ⟨.bl _, H, I, rfl, ?_⟩
  have e : Ob.lexAt (fun n => if n = 0 then i == k else j == l) (fun n => if n = 0 then decide (k < i) else decide (l < j)) (decide (2 > 2)) 0 2 = ltp (k, l) (i, j) := by
    rw [Ob.lexAt_succ, Ob.lexAt_succ, Ob.lexAt_zero]
    show (if (i == k) = true then (if (j == l) = true then decide (2 > 2) else decide (l < j)) else decide (k < i)) = (decide (k < i) || (decide (k = i) && decide (l < j)))
    by_cases h1 : i = k
    · subst h1
      by_cases h2 : j = l
      · subst h2; simp
      · simp [h2]
    · have : ¬ k = i := fun z => h1 z.symm
      simp [h1, this]
  have q : Q (.bl (ltp (k, l) (i, j))) H := q
  rw [← e] at q
  exact q
theorem op_ltP (hu : X.A.units < cLine) : OpR X (compareOp .Lt) (rGtP X.K false) := by
  intro pins s σ H x y v u Q I rx ry h
  obtain ⟨a, b, i, j, k, l, rfl, rfl, ha, hb, q⟩ := h
  cases rx
  cases ry
  obtain ⟨its, r1, p1, _⟩ := I.tuple ha
  obtain ⟨its2, r2, p2, _⟩ := I.tuple hb
  obtain ⟨t1, t2, rfl⟩ := two_of r1
  obtain ⟨t3, t4, rfl⟩ := two_of r2
  have := Ob.RcOp.tuples_lt (A := X.A) (s := s) (e := fun n => if n = 0 then i == k else j == l) (r := fun n => if n = 0 then decide (i < k) else decide (j < l)) p1 p2 hu
    (fun n h1 h2 => by
      have : n = 0 ∨ n = 1 := by simp at h1; omega
      rcases this with rfl | rfl
      · exact SeqAt.EqAt.int_int _ _ _ _
      · exact SeqAt.EqAt.int_int _ _ _ _)
    (fun n h1 h2 _ => by
      have : n = 0 ∨ n = 1 := by simp at h1; omega
      rcases this with rfl | rfl
      · exact Ob.RcOp.lt_int _ _ _ _
      · exact Ob.RcOp.lt_int _ _ _ _)
  refine this _ _ _ _ ⟨.bl _, H, I, rfl, ?_⟩
  have e : Ob.lexAt (fun n => if n = 0 then i == k else j == l) (fun n => if n = 0 then decide (i < k) else decide (j < l)) (decide (2 < 2)) 0 2 = ltp (i, j) (k, l) := by
    rw [Ob.lexAt_succ, Ob.lexAt_succ, Ob.lexAt_zero]
    show (if (i == k) = true then (if (j == l) = true then decide (2 < 2) else decide (j < l)) else decide (i < k)) = (decide (i < k) || (decide (i = k) && decide (j < l)))
    by_cases h1 : i = k
    · subst h1
      by_cases h2 : j = l
      · subst h2; simp
      · simp [h2]
    · simp [h1]
  have q : Q (.bl (ltp (i, j) (k, l))) H := q
  rw [← e] at q
  exact q
theorem rr_P {K : PySem.W.Frag} {up : Bool} {x y : Int × Int} : RR (rGtP K up) (pr2 I I x) (pr2 I I y) (Bo (if up then ltp y x else ltp x y)) := fun F ω B H v u p1 p2 O Q hQ => by
  obtain ⟨a, us, rfl, h1, h2⟩ := p1
  obtain ⟨b, ws, rfl, h3, h4⟩ := p2
  cases h2 with | cons q1 t =>
  cases t with | cons q2 t =>
  cases t
  cases h4 with | cons q3 t =>
  cases t with | cons q4 t =>
  cases t
  cases q1
  cases q2
  cases q3
  cases q4
  exact ⟨a, b, _, _, _, _, rfl, rfl, SqT.of (O.ex _ _ h1), SqT.of (O.ex _ _ h3), hQ _ B H (Ex.refl B) O rfl⟩
theorem lt_of_hu (h : X.A.units + 64 < cLine) : X.A.units < cLine := by omega
theorem d_gtP [Cold c] {x y : Int × Int} (ha : DE c Γ ω a (pr2 I I x) ω1) (hb : DE c Γ ω1 b (pr2 I I y) ω2) : DE c Γ ω (.Compare a [.Gt] [b] pos) (Bo (ltp y x)) ω2 :=
  d_cmp (r := rGtP c.M.K true) (fun X fx => by rw [← fx.K]; exact op_gtP (lt_of_hu fx.room.units)) ha hb rr_P (nomark _)
theorem d_ltP [Cold c] {x y : Int × Int} (ha : DE c Γ ω a (pr2 I I x) ω1) (hb : DE c Γ ω1 b (pr2 I I y) ω2) : DE c Γ ω (.Compare a [.Lt] [b] pos) (Bo (ltp x y)) ω2 :=
  d_cmp (r := rGtP c.M.K false) (fun X fx => by rw [← fx.K]; exact op_ltP (lt_of_hu fx.room.units)) ha hb rr_P (nomark _)
theorem t_gtP [Cold c] {x y : Int × Int} (ha : DE c Γ ω a (pr2 I I x) ω1) (hb : DE c Γ ω1 b (pr2 I I y) ω2) : DT c Γ ω (.Compare a [.Gt] [b] pos) (· = ltp y x) ω2 :=
  t_cmp (r := rGtP c.M.K true) (fun X fx => by rw [← fx.K]; exact op_gtP (lt_of_hu fx.room.units)) ha hb (rr_P.wide Sle.tb) (nomark _)
theorem t_ltP [Cold c] {x y : Int × Int} (ha : DE c Γ ω a (pr2 I I x) ω1) (hb : DE c Γ ω1 b (pr2 I I y) ω2) : DT c Γ ω (.Compare a [.Lt] [b] pos) (· = ltp x y) ω2 :=
  t_cmp (r := rGtP c.M.K false) (fun X fx => by rw [← fx.K]; exact op_ltP (lt_of_hu fx.room.units)) ha hb (rr_P.wide Sle.tb) (nomark _)

/-! ### the place of a text in a text -/
def sidx (s u : Str) : Option Nat := Txt.index0 s u
def sidv (s u : Str) : Int := (((sidx s u).getD 0 : Nat) : Int)
theorem d_sidx [Cold c] {o e : Expr} {s u : Str} {apos cpos : Pos} (hk : (sidx s u).isSome = true) (ho : DE c Γ ω o (Tx s) ω1) (he : DE c Γ ω1 e (Tx u) ω2) (hb : ∀ env, attributeBase o "index" env (eval o env) = eval o env := by intro _; rfl) (hln : (apos.endLine == cpos.line) = true := by rfl)
    (hfew : ∀ env, ((backTo cpos (starEach [e] env)).all (fun x => !x.1) && (backToKw cpos (keywordEach [] env)).all (fun x => x.1.isSome)
      && decide (([e] : List Expr).length + ([] : List Keyword).length + (if ([] : List Keyword).isEmpty then 0 else 1) < 30)) = true := by intro _; rfl) (hs : ∀ env, starEach [e] env = (false, eval e env) :: starEach [] env := by intro _; rfl) (hpl : ∀ env, (backTo cpos (starEach ([] : List Expr) env)).any (·.1) = false := by intro _; rfl) :
    DE c Γ ω (.Call (.Attribute o "index" apos) [e] [] cpos) (I (sidv s u)) ω2 := by
  intro X fx F σ B H hE hO Q hQ
  refine tW.of (pe_bmS PySem.F.plainAttrs_str PySem.F.slot_str_index PySem.F.type_str_index (mt_indexX fx.calm takes0) pe_w pa_w (hb _) (hfew _) hln (hs _) (hpl _)) ?_
  refine ho X fx F σ B H hE hO _ fun v B1 H1 e1 O1 p1 => ⟨?_, ?_⟩
  · cases (show v = V.str s from p1); exact rfl
  refine a_cons he a_nil hs X fx F σ B1 H1 (hE.mono e1) O1 _ fun vs B2 H2 e2 O2 p2 => ?_
  obtain ⟨w, rfl, hw⟩ := all1 p2
  cases (show v = V.str s from p1)
  cases (show w = V.str u from hw)
  refine ⟨s, u, rfl, rfl, fun k e => hQ _ B2 H2 (e1.trans e2) O2 ?_, fun e => ?_⟩
  · show V.int _ = V.int _
    unfold sidv sidx
    rw [e]; rfl
  · unfold sidx at hk; rw [e] at hk; exact absurd hk Bool.false_ne_true
end
end ZZ

set_option maxHeartbeats 2000000
/-! Y12: told and due. -/
namespace ZZ
open PySem PySem.Spec PyProof.Rows L2
open Evl (Ex)
inductive Sco | non | bl (b : Bool) | int (i : Int) | str (s : Str)
def Sco.sh : Sco → Sh
  | .non => No
  | .bl b => Bo b
  | .int i => I i
  | .str s => Tx s
/-- data of depth n at most -/
def Dt : Nat → Type
  | 0 => Sco
  | n + 1 => Sco ⊕ List (Dt n)
def Dt.sh : (n : Nat) → Dt n → Sh
  | 0, x => Sco.sh x
  | _ + 1, .inl x => x.sh
  | n + 1, .inr xs => Sq false (Dt.sh n) xs
def same (n : Nat) : Ct (Dt n) := { As := fun x => [Dt.sh n x, Dt.sh n x], S := fun _ => Bo true }
def Dt.sc : (n : Nat) → Sco → Dt n
  | 0, x => x
  | _ + 1, x => .inl x
theorem Dt.sc_sh {n : Nat} {x : Sco} : Dt.sh n (Dt.sc n x) = x.sh := by cases n <;> rfl
def Gsame (M : Mo) : Prop := Gd M 5 "_law_same" ["told", "due"] (same 4)
/-- things that are data of some depth -/
class IsDt {α : Type} (R : α → Sh) where
  dep : Nat
  f : ∀ n, dep ≤ n → α → Dt n
  le : ∀ n h x, Sle (R x) (Dt.sh n (f n h x))
theorem sle_sc {n : Nat} {x : Sco} : Sle x.sh (Dt.sh n (Dt.sc n x)) := by rw [Dt.sc_sh]; exact Sle.refl
instance isI : IsDt I := ⟨0, fun n _ i => Dt.sc n (.int i), fun n _ x => sle_sc (x := .int x)⟩
instance isB : IsDt Bo := ⟨0, fun n _ i => Dt.sc n (.bl i), fun n _ x => sle_sc (x := .bl x)⟩
instance isS : IsDt Tx := ⟨0, fun n _ i => Dt.sc n (.str i), fun n _ x => sle_sc (x := .str x)⟩
instance isN : IsDt Nn := ⟨0, fun n _ i => Dt.sc n .non, fun n _ x => sle_sc (x := .non)⟩
theorem le_pred' {m n : Nat} (h : m + 1 ≤ n + 1) : m ≤ n := by omega
section
variable {α β γ δ : Type} {R : α → Sh} {Rb : β → Sh} {Rc : γ → Sh} {Rd' : δ → Sh}
instance isO [K : IsDt R] : IsDt (Oq R) := ⟨K.dep, fun n h o => match o with
    | none => Dt.sc n .non
    | some x => K.f n h x, fun n h o => by
  cases o with
  | none => exact sle_sc (x := .non)
  | some x => exact K.le n h x⟩
theorem sle_mapD {f : α → β} (h : ∀ x, Sle (R x) (Rb (f x))) {bb : Bool} {xs : List α} : Sle (Sq bb R xs) (Sq bb Rb (xs.map f)) := fun B v q => by
  obtain ⟨a, vs, rfl, q1, q2⟩ := q
  refine ⟨a, vs, rfl, q1, ?_⟩
  clear q1
  induction q2 with
  | nil => exact .nil
  | cons p q ih => exact .cons (h _ _ _ p) ih
instance isQ [K : IsDt R] : IsDt (Sq false R) := ⟨K.dep + 1, fun n h xs => match n, h with
    | n + 1, h => .inr (xs.map (K.f n (le_pred' h))), fun n h xs => by
  cases n with
  | zero => exact absurd h (by omega)
  | succ n => exact sle_mapD fun x => K.le n (le_pred' h) x⟩
theorem max2 {m m' n : Nat} (h : max m m' + 1 ≤ n + 1) : m ≤ n ∧ m' ≤ n := by omega
theorem sle_tupD {n : Nat} {ss : List Sh} {ds : List (Dt n)} (h : All2 (fun s d => Sle s (Dt.sh n d)) ss ds) : Sle (U ss) (Sq false (Dt.sh n) ds) := fun B v q => by
  obtain ⟨a, vs, rfl, q1, q2⟩ := q
  refine ⟨a, vs, rfl, q1, ?_⟩
  clear q1
  induction h generalizing vs with
  | nil => cases q2; exact .nil
  | cons p t ih => cases q2 with | cons u w => exact .cons (p _ _ u) (ih _ w)
instance is2 [K : IsDt R] [K2 : IsDt Rb] : IsDt (pr2 R Rb) := ⟨max K.dep K2.dep + 1, fun n h x => match n, h with
    | n + 1, h => .inr [K.f n (max2 h).1 x.1, K2.f n (max2 h).2 x.2], fun n h x => by
  cases n with
  | zero => exact absurd h (by omega)
  | succ n => exact sle_tupD (.cons (K.le n _ x.1) (.cons (K2.le n _ x.2) .nil))⟩
theorem max3 {m m' m'' n : Nat} (h : max m (max m' m'') + 1 ≤ n + 1) : m ≤ n ∧ m' ≤ n ∧ m'' ≤ n := by omega
instance is3 [K : IsDt R] [K2 : IsDt Rb] [K3 : IsDt Rc] : IsDt (pr3 R Rb Rc) := ⟨max K.dep (max K2.dep K3.dep) + 1, fun n h x => match n, h with
    | n + 1, h => .inr [K.f n (max3 h).1 x.1, K2.f n (max3 h).2.1 x.2.1, K3.f n (max3 h).2.2 x.2.2], fun n h x => by
  cases n with
  | zero => exact absurd h (by omega)
  | succ n => exact sle_tupD (.cons (K.le n _ x.1) (.cons (K2.le n _ x.2.1) (.cons (K3.le n _ x.2.2) .nil)))⟩
end
/-- what is told and what is due are one: the answer is True -/
theorem d_same {c : Cc} [Cold c] {Γ : En} {ω ω1 ω2 : Ws} {a b : Expr} {pos p : Pos} {α : Type} {R : α → Sh} [K : IsDt R] {x y : α} (G : Gsame c.M) (h : x = y) (ha : DE c Γ ω a (R x) ω1) (hb : DE c Γ ω1 b (R y) ω2) (hd : K.dep ≤ 4 := by decide) (hk : 5 ≤ c.k := by exact Nat.le_of_ble_eq_true rfl)
    (hg : Glo c.sc "_law_same" := by exact rfl) (he : ∀ env, starEach [a, b] env = (false, eval a env) :: starEach [b] env := by intro _; rfl) (he2 : ∀ env, starEach [b] env = (false, eval b env) :: starEach [] env := by intro _; rfl) (hpl : ∀ env, (backTo pos (starEach [b] env)).any (·.1) = false := by intro _; rfl) :
    DE c Γ ω (.Call (.Name "_law_same" p) [a, b] [] pos) (Bo true) ω2 := by
  subst h
  exact d_call0 (t := same 4) (K.f 4 hd x) G hk (a_cons (ha.wide (K.le 4 hd x)) (a_cons (hb.wide (K.le 4 hd x)) a_nil he2) he) rfl trivial rfl rfl hg (by decide) he hpl
/-- a thing that a name holds is not longer than the line -/
theorem ds_len {c : Cc} {X : Cx} {B0 F : Hp} {D : Ends} {Γ : En} {ω : Ws} {sts : List Stmt} {x : Str} {α : Type} {R : α → Sh} {xs : List α} {bb : Bool} (hh : Has Γ x (Sq bb R xs)) (h : xs.length ≤ 16777216 → DS c X B0 F D Γ ω sts) : DS c X B0 F D Γ ω sts := by
  intro fx σ B H e hE hO pins s I
  obtain ⟨i, v, _, _, a, us, rfl, h1, h2⟩ := hh.get hE
  have hz : us.length ≤ sizeLine := by
    cases bb with
    | true => exact (I.list (SqL.of (hO.ex _ _ h1))).choose_spec.2.2
    | false => exact (I.tuple (SqT.of (hO.ex _ _ h1))).choose_spec.2.2
  have hl := h2.len
  exact h (by rw [← hl]; exact hz) fx σ B H e hE hO pins s I
end ZZ

set_option maxHeartbeats 2000000
/-! Y13: parts of an owned list. -/
namespace ZZ
open PySem PySem.Spec PyProof.Rows L2
open Evl (Ex)
class FlatS {α : Type} (R : α → Sh) : Prop where
  fl : ∀ (x : α) (B B' : Hp) (v : V), (R x).p B v → (R x).p B' v
instance flSI : FlatS I := ⟨fun _ _ _ _ h => h⟩
instance flST : FlatS Tx := ⟨fun _ _ _ _ h => h⟩
instance flSB : FlatS Bo := ⟨fun _ _ _ _ h => h⟩
instance flSN : FlatS Nn := ⟨fun _ _ _ _ h => h⟩
instance flSO {α : Type} {R : α → Sh} [F : FlatS R] : FlatS (Oq R) := ⟨fun x B B' v h => by
  cases x with
  | none => exact h
  | some x => exact F.fl x B B' v h⟩
theorem flN : ∀ e ∈ ([] : Ws), Flat e.2 := fun _ h => absurd h (List.not_mem_nil)
theorem flat_Cl {α : Type} {R : α → Sh} [F : FlatS R] {xs : List α} : Flat (Cl R xs) := fun B B' o h => by
  obtain ⟨vs, rfl, h⟩ := h
  exact ⟨vs, rfl, h.mp fun _ _ q => F.fl _ _ _ _ q⟩
theorem flC {α : Type} {R : α → Sh} [F : FlatS R] {xs : List α} {l : Addr} {ω : Ws} (h : ∀ e ∈ ω, Flat e.2) : ∀ e ∈ ((l, Cl R xs) :: ω : Ws), Flat e.2 := fun e he => by
  rcases List.mem_cons.mp he with rfl | he
  · exact flat_Cl
  · exact h e he
section
variable {c : Cc} {Γ : En} {ω ω1 ω2 ω3 : Ws} {a : Expr} {pos p p2 : Pos} {α : Type} {R : α → Sh} {xs : List α} {l : Addr}
/-- a part of a list that is owned: a new list -/
theorem n_slO {lo hi : Option Expr} {i j : Option Int} (ha : DE c Γ ω a (At l) ω1) (hl : DO c Γ ω1 lo i ω2) (hh : DO c Γ ω2 hi j ω3) (hm : Hold ω3 l (Cl R xs)) : DNc c Γ ω (.Subscript a (.Slice lo hi none p2) pos) (Cl R (cut xs i j)) ω3 := by
  intro X fx F σ B H hE hO Q hQ
  refine tW.of (pe_slice sl_list pe_w po_w po_w) ?_
  refine ha X fx F σ B H hE hO _ fun v B1 H1 e1 O1 p1 => ?_
  refine hl.run fx (hE.mono e1) O1 fun B2 H2 e2 O2 => ?_
  refine hh.run fx (hE.mono (e1.trans e2)) O2 fun B3 H3 e3 O3 => ?_
  obtain ⟨_, _, o, h2, vs, rfl, h3⟩ := O3.ow _ _ hm.mem
  exact ⟨l, vs, p1, SqL.of h2, fun q hq => hQ q _ _ ((e1.trans e2).trans e3) (O3.cons hq (C := Cl R (cut xs i j)) ⟨_, rfl, h3.cut i j⟩)⟩
/-- a copy of a list that is owned -/
theorem n_listO (ha : DE c Γ ω a (At l) ω1) (hh : Hold ω1 l (Cl R xs)) (hm : c.M.mg "list" = none) (hg : Glo c.sc "list" := by exact rfl) (he : ∀ env, starEach [a] env = (false, eval a env) :: starEach [] env := by intro _; rfl) : DNc c Γ ω (.Call (.Name "list" p) [a] [] pos) (Cl R xs) ω1 := by
  intro X fx F σ B H hE hO Q hQ
  refine tW.of (pe_callTy call_list_of (gl_of fx hg) (by rw [fx.mg]; exact hm) PyProof.Rows.boot_list pa_w (he := he _)) ?_
  refine a_cons ha a_nil he X fx F σ B H hE hO _ fun vs B1 H1 e1 O1 p1 => ?_
  obtain ⟨v, rfl, hv⟩ := all1 p1
  obtain ⟨_, _, o, h2, us, rfl, h3⟩ := O1.ow _ _ hh.mem
  exact ⟨l, us, congrArg (fun x => [x]) hv, .inl (SqL.of h2), fun q hq => hQ q _ _ e1 (O1.cons hq (C := Cl R xs) ⟨us, rfl, h3⟩)⟩
/-- a list lent to what changes other cells -/
theorem d_lendP {c : Cc} {Γ Γ1 : En} {ω ω1 ω2 ω3 : Ws} {x : Str} {e : Expr} {xs : List α} {R : α → Sh} {l : Addr} {vv : V} (hu : Upg Γ x (At l) (L R xs) Γ1) (ht : Tak ω l (Cl R xs) ω1) (ht' : Tak ω3 l (Cl R xs) ω2) (had : ω2.map (·.1) = ω1.map (·.1)) (hfl : ∀ e ∈ ω2, Flat e.2) (hd : DE c Γ1 ω1 e (Sc vv) ω2) : DE c Γ ω e (Sc vv) ω3 := by
  intro X fx F σ B H hE hO Q hQ
  obtain ⟨o, h1, h3, O2, e2⟩ := hO.freeze ht
  obtain ⟨hb, hf, _⟩ := hO.ow _ _ ht.mem
  have h3' := h3
  obtain ⟨vs, rfl, h4⟩ := h3
  have hnd : (ω3.map (·.1)).Nodup := by
    have p1 := (Tak.perm ht).map (·.1)
    have p2 := (Tak.perm ht').map (·.1)
    rw [List.map_cons, had, ← List.map_cons (f := fun x : Addr × Co => x.1) (a := (l, Cl R xs))] at p2
    exact (p2.trans p1.symm).nodup_iff.mpr hO.nd
  refine hd X (fx.re hu.names) F σ (upd B l (.lst vs)) H (hu.env (fun v hv => ?_) (hE.mono e2)) O2 Q fun b B2 H2 e3 O3 hr => ?_
  · exact ⟨l, vs, hv, upd_same, h4.mp fun _ s q => (R s).mono e2 q⟩
  · have hl : B2 l = some (.lst vs) := e3 _ _ upd_same
    have eB : Ex B (fun a => if a = l then none else B2 a) := fun a o' h => by
      have hne : a ≠ l := fun z => by rw [z, hb] at h; cases h
      show (if a = l then none else B2 a) = some o'
      rw [if_neg hne]
      exact e3 _ _ (by rw [upd_ne hne]; exact h)
    refine hQ b _ H2 eB ⟨hnd, fun m D hm => ?_, fun a ha => ?_⟩ hr
    · rcases ht'.split hm with z | z
      · cases z
        exact ⟨if_pos rfl, hf, .lst vs, O3.ex _ _ hl, (Cl R xs).mono eB h3'⟩
      · obtain ⟨q1, q2, o', q3, q4⟩ := O3.ow m D z
        have hne : m ≠ l := fun y => by rw [y, hl] at q1; cases q1
        exact ⟨by show (if m = l then none else B2 m) = none; rw [if_neg hne]; exact q1, q2, o', q3, hfl _ z _ _ _ q4⟩
    · obtain ⟨z1, z2⟩ := ht'.has ha
      obtain ⟨q1, q2⟩ := O3.fr a z2
      show ((if a = l then none else B2 a) = none ∨ F a = none) ∧ H2 a = (if a = l then none else B2 a).or (F a)
      rw [if_neg z1]
      exact ⟨q1, q2⟩
/-! ### a comprehension whose elements change cells -/
def mapA {β τ : Type} (f : τ → β → α × τ) : τ → List β → List α × τ
  | s, [] => ([], s)
  | s, y :: ys => ((f s y).1 :: (mapA f (f s y).2 ys).1, (mapA f (f s y).2 ys).2)
def okA {β τ : Type} (f : τ → β → α × τ) (ok : τ → β → Prop) : τ → List β → Prop
  | _, [] => True
  | s, y :: ys => ok s y ∧ okA f ok (f s y).2 ys
theorem mapA_app {β τ : Type} {f : τ → β → α × τ} : ∀ {s : τ} {ys : List β} {y : β}, mapA f s (ys ++ [y]) = ((mapA f s ys).1 ++ [(f (mapA f s ys).2 y).1], (f (mapA f s ys).2 y).2)
  | s, [], y => rfl
  | s, z :: ys, y => by
    rw [List.cons_append, mapA, mapA_app]; rfl
theorem okA_app {β τ : Type} {f : τ → β → α × τ} {ok : τ → β → Prop} : ∀ {s : τ} {ys zs : List β} {y : β}, okA f ok s (ys ++ y :: zs) → ok (mapA f s ys).2 y
  | s, [], _, y, h => h.1
  | s, z :: ys, _, y, h => okA_app (ys := ys) h.2
end
section
variable {c : Cc} {X : Cx} {B0 F : Hp} {D : Ends} {Γ Γ0 Γw : En} {ω ω1 : Ws} {tg it elt : Expr} {scope : Scope} {own : List (Str × Nat)} {α β τ ζ : Type} {Rb : β → Sh} {R : α → Sh} {ys : List β} {pos spos py : Pos} {y : Str} {rest : List Stmt} {G : Hp → ζ → Prop}
theorem lc_coreS [Cold c] {f : τ → β → α × τ} {ok : τ → β → Prop} {s0 : τ} (cel : τ → Ws) (had : ∀ s s', (cel s').map (·.1) = (cel s).map (·.1)) {X : Cx} {F : Hp} {σ : L2.St} {B H : Hp} (fx : Fits c (Γ.map (·.1)) X) (hE : EnvOk Γ σ B) (hO : Own F ω B H) (ok' : BlkOk (Γ.map (·.1)) c.sc scope own) (hw : Wip Γ own Γw)
    (hi : DIl c Γ ω tg it ys Rb (cel s0)) (hk : okA f ok s0 ys) (hz : oks ys)
    (hb : ∀ s y, ok s y → ∃ Γb ns, DG ⟨c.M, relS scope c.sc, c.k, false, false⟩ tg ns (Rb y) Γw Γb ∧ (∀ x ∈ ns, x ∈ own.map (·.1)) ∧ DE ⟨c.M, relS scope c.sc, c.k, false, false⟩ Γb (cel s) elt (R (f s y).1) (cel (f s y).2))
    {Q : VK} (hQ : ∀ l B' H', Ex B B' → Own F (cel (mapA f s0 ys).2 ++ [(l, Cl R (mapA f s0 ys).1)]) B' H' → Q (.ref l) H') :
    tLc (tI X tg it) (gBlk X scope tg) (cBlk X scope []) (eBlk X scope elt) (own.map (·.2)) σ H Q := by
  refine hi X fx F σ B H hE hO _ fun It B1 H1 e1 O1 hit D hD => ?_
  have hl : σ.length = (Γ.map (·.1)).length := by rw [hE.len, List.length_map]
  have hmx : ∀ i, (mapA f s0 (ys.take i)).1.length ≤ i := fun i => by
    have : ∀ (zs : List β) (s : τ), (mapA f s zs).1.length = zs.length := fun zs => by
      induction zs with
      | nil => intro s; rfl
      | cons z zs ih => intro s; rw [mapA, List.length_cons, ih, List.length_cons]
    rw [this, List.length_take]; exact Nat.min_le_left _ _
  refine ⟨fun i m H' => m = ys.length - i ∧ i ≤ ys.length ∧ ∃ B', Ex B1 B' ∧ Own F (cel (mapA f s0 (ys.take i)).2 ++ [(D, Cl R (mapA f s0 (ys.take i)).1)]) B' H', ⟨ys.length, by simp, Nat.zero_le _, B1, Ex.refl B1, O1.add hD (C := Cl R []) ⟨[], rfl, .nil⟩⟩, ?_⟩
  rintro i m H2 ⟨rfl, hin, B2, e2, O2⟩
  obtain ⟨q1, q2, q3⟩ := hit B2 H2 e2 O2.ex
  by_cases hlt : i < ys.length
  · refine .inr ⟨q1 i hlt, fun H' => ∃ B', Ex B1 B' ∧ Own F (cel (mapA f s0 (ys.take (i + 1))).2 ++ [(D, Cl R (mapA f s0 (ys.take (i + 1))).1)]) B' H', fun H' q => ⟨ys.length - (i + 1), by omega, rfl, hlt, q⟩, fun x H3 yl => ?_⟩
    obtain ⟨y, hy, q⟩ := q3 i hlt x H3 yl
    have hsp : ys = ys.take i ++ y :: ys.drop (i + 1) := by
      obtain ⟨h1, h2⟩ := List.getElem?_eq_some_iff.mp hy
      rw [← h2, List.getElem_cons_drop, List.take_append_drop]
    have hok : ok (mapA f s0 (ys.take i)).2 y := by
      rw [hsp] at hk
      exact okA_app hk
    have hnx : mapA f s0 (ys.take (i + 1)) = ((mapA f s0 (ys.take i)).1 ++ [(f (mapA f s0 (ys.take i)).2 y).1], (f (mapA f s0 (ys.take i)).2 y).2) := by
      rw [List.take_add_one, hy, Option.toList_some, mapA_app]
    have hm := hmx i
    generalize mapA f s0 (ys.take i) = st at *
    rw [hnx]
    obtain ⟨Γb, ns, hg, hs, he⟩ := hb st.2 y hok
    have hEw : EnvOk Γw (wipe σ (own.map (·.2))) B2 := (hw.env fx.nd rfl ok'.ix hE).mono (e1.trans e2)
    have fx' := fx.re hw.names
    obtain ⟨B3, e3, O3, hx⟩ : ∃ B3, Ex B2 B3 ∧ Own F (cel st.2 ++ [(D, Cl R st.1)]) B3 H3 ∧ (Rb y).p B3 x := by
      rcases q with ⟨rfl, q⟩ | ⟨T, o, hT, rfl, q⟩
      · exact ⟨B2, Ex.refl B2, O2, q⟩
      · obtain ⟨O4, e4⟩ := O2.new (o := o) hT
        exact ⟨_, e4, O4, q (O2.none_of hT).1⟩
    intro s H0 C cl fp
    refine hg.2 _ (fx'.blk s H0 scope C cl fp) _ B3 H3 x (hEw.mono e3) O3.ex hx _ fun σ2 hE2 on => ⟨wipe_only fx.nd hl ok'.ix hs (by rw [hw.names] at on; exact on), ?_⟩
    have fxb : ∀ s H0 C cl fp, Fits ⟨c.M, relS scope c.sc, c.k, false, false⟩ (Γb.map (·.1)) (X.blk s H0 scope (compEnvC scope cl C X.env) fp) := fun s H0 C cl fp => (fx'.blk s H0 scope C cl fp).re hg.1
    show eBlk X scope elt σ2 H3 _
    intro s H0 C cl fp
    refine he _ (fxb s H0 C cl fp) _ σ2 B3 H3 hE2 O3.focus _ fun v B5 H5 e5 O5 hv => ?_
    have O6 := O3.unfocus e5 O5 (had _ _)
    obtain ⟨_, _, o, h2, us, rfl, h3⟩ := O6.ow _ _ (List.mem_append_right _ List.mem_cons_self)
    have hz' : ys.length < sizeLine := hz
    exact ⟨us, h2, by rw [h3.len]; omega, B5, (e2.trans e3).trans e5, O6.swp swp_last ⟨_, rfl, (h3.append (.cons hv .nil))⟩⟩
  · have e : i = ys.length := by omega
    subst e
    rw [List.take_length] at O2
    exact .inl ⟨q2, hQ D B2 H2 (e1.trans e2) O2⟩
/-- x = [f(y) for y in ..], the cells changed on the way -/
theorem y_mapS [Cold c] {f : τ → β → α × τ} {ok : τ → β → Prop} {s0 : τ} {kk : List α × τ → ζ} {okk : List α × τ → Prop} (cel : τ → Ws) (own : List (Str × Nat)) (had : ∀ s s', (cel s').map (·.1) = (cel s).map (·.1)) (hk : okA f ok s0 ys) (hzs : oks ys) (hz : Go G B0 (lt (mapA f s0 ys) kk)) (hp : lt (mapA f s0 ys) okk)
    (hi : DIl c Γ ω tg it ys Rb (cel s0)) (ok' : BlkOk (Γ.map (·.1)) c.sc scope own) (hw : Wip Γ own Γw)
    (hb : ∀ s y, ok s y → ∃ Γb ns, DG ⟨c.M, relS scope c.sc, c.k, false, false⟩ tg ns (Rb y) Γw Γb ∧ (∀ x ∈ ns, x ∈ own.map (·.1)) ∧ DE ⟨c.M, relS scope c.sc, c.k, false, false⟩ Γb (cel s) elt (R (f s y).1) (cel (f s y).2)) (hpn : Put Γ y none Γ0)
    (k : ∀ v, Go G B0 (kk v) → okk v → ∀ l, ∃ Γ1, Put Γ y (some (At l)) Γ1 ∧ DS c X B0 F D Γ1 ((l, Cl R v.1) :: cel v.2) rest)
    (hyl : c.sc.names.lookup y = some .local := by exact rfl) (hkf : c.sc.kind = .function := by exact rfl) (hln : (py.line == spos.line) = true := by rfl) (hpl : (py.line == pos.line) = true := by rfl) (ha : (scope.names.any fun (n, k) => n == y && (k == .local || k == .cell)) = false := by decide +kernel)
    (hs : ∀ env x, foldedSetIterable it env x = pure x := by intro _ _; rfl) : DS c X B0 F D Γ ω (.Assign [.Name y py] (.ListComp elt [⟨tg, it, [], 0⟩] scope pos) spos :: rest) := by
  have k := k _ hz hp
  intro fx σ B H hB hE hO
  obtain ⟨j, hj⟩ := hpn.ix
  refine tS.cons (ps_setLc (i := j) (own := own) fx.calm (by rw [fx.ns]; exact fx.nd) (by rw [fx.ns]; exact hj) (by rw [fx.sc]; exact hyl) (sw_true (by rw [fx.sc]; exact hkf) (by rw [fx.sc]; exact hyl) hpl ha) pi_w (by rw [fx.ns, fx.sc]; exact ok') (g := gBlk X scope tg) (te := eBlk X scope elt)
    (fun s H0 C cl fp => ⟨fun pins s' σ H v u Q I r h => h s H0 C cl fp pins s' u I r⟩) (fun s H0 C cl fp => pts_blk (.inl rfl) s H0 C cl fp) (fun s H0 C cl fp => ⟨fun pins s' σ H Q I h => h s H0 C cl fp pins s' I⟩) (hs _)) ?_
  refine lc_coreS cel had fx hE hO ok' hw hi hk hzs hb fun l B1 H1 e1 O1 => ?_
  obtain ⟨Γ1, hp1, k⟩ := k l
  obtain ⟨j', h1, h2⟩ := hp1.set
  have e : j' = j := nodup_ix fx.nd h1 hj
  subst e
  exact k (fx.re hp1.names) _ B1 H1 (hB.trans e1) (h2 _ _ _ (hE.mono e1) rfl) (O1.perm (List.perm_append_singleton _ _))
end
end ZZ

set_option maxHeartbeats 2000000
/-! Y14: an error caught and asked for its word. -/
namespace ZZ
open PySem PySem.Spec PyProof.Rows L2
open Evl (Ex)
theorem Pr.gdY {τ : Type} {t : Ct τ} {M : Mo} {k : Nat} {x : Str} {st : Stmt} {N ps : List Str} (P : Pr M x st ps) (S : FnScope N ps (defScope st)) (hlen : ∀ g, (t.As g).length = ps.length)
    (hbody : ∀ (X : Cx) (B0 F0 : Hp) (D : Ends) (g : τ), X.stack = X.env :: X.outer → X.env.frame = some X.env.locals → t.pre g → Rt B0 F0 D.rt (t.S g) (t.ω' g) → (∀ σ H, D.rt .non H → D.nx σ H) → DS ⟨M, defScope st, k, true, false⟩ X B0 F0 D (mkΓ N (t.As g)) (t.ω g) (defBody st)) : Gd M (k + 1) x ps t := by
  obtain ⟨f, fd, F, hm, hb⟩ := P
  refine ⟨f, fd, F.ok S (fun vs H Q E h => ?_) (fun cdv A outer s H vs Q E hr h => ?_), hm, F.kp, hb⟩
  · obtain ⟨g, _, _, _, h2, _⟩ := h
    rw [h2.len, hlen]
  · obtain ⟨g, F0, B, hp, hv, hO, hQ⟩ := h
    have hl : ps.length ≤ N.length := by have := congrArg List.length S.pre; rw [List.length_take] at this; omega
    refine ⟨_, pss_w, hbody _ B F0 _ g rfl rfl hp (fun v B' H' e1 O1 p1 => hQ v B' H' e1 O1 p1) (fun _ _ h => h) ?_ _ B H (Ex.refl B) (mk_env N _ vs hv (by rw [hlen]; exact hl)) hO⟩
    rw [mk_names]
    exact ⟨rfl, rfl, rfl, rfl, rfl, rfl, rfl, S.nd, fun _ => rfl, fun _ => hr, L2H.roomH_of hr, (fun h => nomatch h), fun _ _ _ => rfl, PassesOwn.never⟩
/-- told and due, asked where an error is handled -/
def GsameH (M : Mo) : Prop := Gh M 5 "_law_same" ["told", "due"] (same 4)
/-- return not isinstance(n, y) and _law_same(n.fld, x2) -/
theorem suite_sameX {c : Cc} {X : Cx} {Γ : En} {F B H : Hp} {D' : Ends} {σ : L2.St} {v : V} {a C N dd : Addr} {oe : Obj} {pn : List (Addr × Obj)} {n y fld : Str} {i : Nat} {α : Type} {R : α → Sh} [K : IsDt R] {x : α} {x2 : Expr} {t2 : TE} {p1 p2 p3 p4 p5 p6 p7 p8 p12 p13 p14 : Pos}
    (fx : Fits c (Γ.map (·.1)) X) (hz : L2N.Zn (.ref C) (some dd) oe) (hf : ∃ vs, oe.data = .fields vs) (hE : EnvOk Γ σ B) (hO : Own F [] B H) (hd : B dd = some (.xd [(fld, v)])) (hv : (R x).p B v) (T : XD X.K C N fld) (hi : (Γ.map (·.1))[i]? = some n) (hn : Vis c.sc n) (hy : c.M.mg y = some (.ref N))
    (G : GsameH c.M) (hk : 5 ≤ c.k) (hdep : K.dep ≤ 4)
    (P2 : PE (X.suite a ((a, oe) :: pn)) x2 t2) (h2 : ∀ Q : VK, (∀ u B1 H1, Ex B B1 → Own F [] B1 H1 → (R x).p B1 u → Q u H1) → t2 (σ.set i (some (.ref a))) H Q)
    (hQ : ∀ B' H', Ex B B' → Own F [] B' H' → D'.rt (.bl true) H')
    (m1 : c.M.mg "isinstance" = none) (g1 : Glo c.sc "isinstance") (g3 : Glo c.sc y) (g4 : Glo c.sc "_law_same") (dn : (n == ("__debug__" : Str)) = false) (dn2 : (n == ("__classdict__" : Str)) = false) (dy : (y == ("__debug__" : Str)) = false)
    (e1 : ∀ env, starEach [Expr.Name n p2, .Name y p3] env = (false, eval (.Name n p2) env) :: starEach [.Name y p3] env) (e2 : ∀ env, starEach [Expr.Name y p3] env = (false, eval (.Name y p3) env) :: starEach [] env)
    (e3 : ∀ env, starEach [Expr.Attribute (.Name n p7) fld p8, x2] env = (false, eval (.Attribute (.Name n p7) fld p8) env) :: starEach [x2] env)
    (e4 : ∀ env, starEach [x2] env = (false, eval x2 env) :: starEach [] env) (hb : ∀ env, attributeBase (.Name n p7) fld env (eval (.Name n p7) env) = eval (.Name n p7) env)
    (b1 : ∀ env, (backTo p4 (starEach [Expr.Name y p3] env)).any (·.1) = false) (b2 : ∀ env, (backTo p12 (starEach [x2] env)).any (·.1) = false) :
    tS (X.suite a ((a, oe) :: pn)) [.Return (some (.BoolOp .And [.UnaryOp .Not (.Call (.Name "isinstance" p1) [.Name n p2, .Name y p3] [] p4) p5, .Call (.Name "_law_same" p6) [.Attribute (.Name n p7) fld p8, x2] [] p12] p13)) p14] D' (σ.set i (some (.ref a))) H := by
  have hdH : H dd = some (.xd [(fld, v)]) := hO.ex _ _ hd
  have gl : ∀ {q : Str}, Glo c.sc q → Gl (X.suite a ((a, oe) :: pn)) q := fun h => show Gl X _ from gl_of fx h
  have nz : (X.suite a ((a, oe) :: pn)).N[i]? = some n := by show X.N[i]? = _; rw [fx.ns]; exact hi
  have vn : Vis (X.suite a ((a, oe) :: pn)).env.scope n := by show Vis X.env.scope n; rw [fx.sc]; exact hn
  have hil : i < σ.length := by
    rw [hE.len]
    have := (List.getElem?_eq_some_iff.mp hi).1
    rw [List.length_map] at this
    exact this
  have i2 : (σ.set i (some (V.ref a)))[i]? = some (some (.ref a)) := by rw [List.getElem?_set_self hil]
  obtain ⟨f, fd, hF, hm, hkp, hbd⟩ := G
  have hF' : L2H.FnH (X.suite a ((a, oe) :: pn)).prog (X.suite a ((a, oe) :: pn)).w (X.suite a ((a, oe) :: pn)).K (X.suite a ((a, oe) :: pn)).mg (X.suite a ((a, oe) :: pn)).base CX0 5 f fd ["told", "due"] (same 4).sp := by
    show L2H.FnH X.prog X.w X.K X.mg X.base CX0 5 f fd ["told", "due"] (same 4).sp
    rw [fx.prog, fx.w, fx.K, fx.mg, fx.base]; exact hF
  obtain ⟨fv, hfv⟩ := hf
  have hot : L2H.HotC (X.suite a ((a, oe) :: pn)) := ⟨(a, oe), ⟨rfl, fv, hfv, hz.2.2 fv hfv⟩, List.mem_cons_self⟩
  refine tS.cons (ps_ret (pe_and (pe_not (pe_callB (call_isD T hz.zc ⟨fv, hfv⟩) (gl g1) (by show X.mg _ = _; rw [fx.mg]; exact m1) PyProof.Rows.boot_isinstance (pa_cons (pe_var nz vn dn dn2) (pa_cons (pe_glob (v := .ref N) (gl g3) (by show X.mg y = _; rw [fx.mg]; exact hy) rfl dy) pa_nil (e2 _)) (e1 _)) (he := e1 _) (hpl := b1 _)))
    (pe_one (L2H.pe_callH (E := fun _ => E0) hF' ((⟨fx.roomH.dp, fx.roomH.un⟩ : L2H.RoomH c.k (X.A.mark (some (.ref a)))).mono hk) hot (gl g4) (by show X.mg "_law_same" = _; rw [fx.mg]; exact hm) (by show PySem.W.keepIn X.K _ = _; rw [fx.K]; exact hkp) (by show Binds X.K _ _ _; rw [fx.K]; exact hbd) (fun σ pins H s e s' I q => pass0 pins σ H s e s' I q)
      (pa_cons (pe_xf T.F T.hno hz.zc ⟨fv, hfv⟩ (pe_var nz vn dn dn2) (hb _)) (pa_cons P2 pa_nil (e4 _)) (e3 _)) (by decide) (e3 _) (b2 _))))) ?_
  refine ⟨.ref a, i2, V.ref N, Value.ref N, false, [(fld, v)], rfl, fun u h => h, T.no, hdH, ?_⟩
  refine ⟨false, rfl, true, rfl, ?_⟩
  refine ⟨.ref a, i2, rfl, rfl, dd, [(fld, v)], v, rfl, hdH, by simp [List.lookup], ?_⟩
  refine h2 _ fun u B1 H1 e O q => ?_
  refine ⟨K.f 4 hdep x, F, B1, trivial, .cons (K.le 4 hdep x _ _ ((R x).mono e hv)) (.cons (K.le 4 hdep x _ _ q) .nil), O, fun w B2 H2 e2 O2 p2 => ?_⟩
  rw [show w = V.bl true from p2]
  exact hQ B2 H2 (e.trans e2) O2
/-- .. with a text -/
theorem suite_sameT {c : Cc} {X : Cx} {Γ : En} {F B H : Hp} {D' : Ends} {σ : L2.St} {v : V} {a C N dd : Addr} {oe : Obj} {pn : List (Addr × Obj)} {n y fld s : Str} {i kc : Nat} {p1 p2 p3 p4 p5 p6 p7 p8 p10 p12 p13 p14 : Pos}
    (fx : Fits c (Γ.map (·.1)) X) (hz : L2N.Zn (.ref C) (some dd) oe) (hf : ∃ vs, oe.data = .fields vs) (hE : EnvOk Γ σ B) (hO : Own F [] B H) (hd : B dd = some (.xd [(fld, v)])) (hv : (Tx s).p B v) (T : XD X.K C N fld) (hi : (Γ.map (·.1))[i]? = some n) (hn : Vis c.sc n) (hy : c.M.mg y = some (.ref N))
    (G : GsameH c.M) (hk : 5 ≤ c.k) (hQ : ∀ B' H', Ex B B' → Own F [] B' H' → D'.rt (.bl true) H')
    (m1 : c.M.mg "isinstance" = none) (g1 : Glo c.sc "isinstance") (g3 : Glo c.sc y) (g4 : Glo c.sc "_law_same") (dn : (n == ("__debug__" : Str)) = false) (dn2 : (n == ("__classdict__" : Str)) = false) (dy : (y == ("__debug__" : Str)) = false)
    (e1 : ∀ env, starEach [Expr.Name n p2, .Name y p3] env = (false, eval (.Name n p2) env) :: starEach [.Name y p3] env := by intro _; rfl) (e2 : ∀ env, starEach [Expr.Name y p3] env = (false, eval (.Name y p3) env) :: starEach [] env := by intro _; rfl)
    (hb : ∀ env, attributeBase (.Name n p7) fld env (eval (.Name n p7) env) = eval (.Name n p7) env := by intro _; rfl)
    (b1 : ∀ env, (backTo p4 (starEach [Expr.Name y p3] env)).any (·.1) = false := by intro _; rfl) :
    tS (X.suite a ((a, oe) :: pn)) [.Return (some (.BoolOp .And [.UnaryOp .Not (.Call (.Name "isinstance" p1) [.Name n p2, .Name y p3] [] p4) p5, .Call (.Name "_law_same" p6) [.Attribute (.Name n p7) fld p8, .Constant (.str s) kc p10] [] p12] p13)) p14] D' (σ.set i (some (.ref a))) H :=
  suite_sameX (R := Tx) (x := s) fx hz hf hE hO hd hv T hi hn hy G hk (by decide) pe_str (fun Q q => q _ B H (Ex.refl B) hO rfl) hQ m1 g1 g3 g4 dn dn2 dy e1 e2 (by intro _; rfl) (by intro _; rfl) hb b1 (by intro _; rfl)
/-- .. with tuple(z) -/
theorem suite_sameQ {c : Cc} {X : Cx} {Γ : En} {F B H : Hp} {D' : Ends} {σ : L2.St} {v : V} {a C N dd : Addr} {oe : Obj} {pn : List (Addr × Obj)} {n y z fld : Str} {i : Nat} {α : Type} {R : α → Sh} [K : IsDt R] {xs : List α} {bz : Bool} {p1 p2 p3 p4 p5 p6 p7 p8 p9 p10 p11 p12 p13 p14 : Pos}
    (fx : Fits c (Γ.map (·.1)) X) (hz : L2N.Zn (.ref C) (some dd) oe) (hf : ∃ vs, oe.data = .fields vs) (hE : EnvOk Γ σ B) (hO : Own F [] B H) (hd : B dd = some (.xd [(fld, v)])) (hv : (Sq false R xs).p B v) (T : XD X.K C N fld) (hi : (Γ.map (·.1))[i]? = some n) (hn : Vis c.sc n) (hy : c.M.mg y = some (.ref N))
    (hzh : Has Γ z (Sq bz R xs)) (hzn : z ≠ n) (hzv : Vis c.sc z) (hdep : K.dep + 1 ≤ 4)
    (G : GsameH c.M) (hk : 5 ≤ c.k) (hQ : ∀ B' H', Ex B B' → Own F [] B' H' → D'.rt (.bl true) H')
    (m1 : c.M.mg "isinstance" = none) (m2 : c.M.mg "tuple" = none) (g1 : Glo c.sc "isinstance") (g2 : Glo c.sc "tuple") (g3 : Glo c.sc y) (g4 : Glo c.sc "_law_same") (dn : (n == ("__debug__" : Str)) = false) (dn2 : (n == ("__classdict__" : Str)) = false) (dy : (y == ("__debug__" : Str)) = false) (dz : (z == ("__debug__" : Str)) = false) (dz2 : (z == ("__classdict__" : Str)) = false)
    (e1 : ∀ env, starEach [Expr.Name n p2, .Name y p3] env = (false, eval (.Name n p2) env) :: starEach [.Name y p3] env := by intro _; rfl) (e2 : ∀ env, starEach [Expr.Name y p3] env = (false, eval (.Name y p3) env) :: starEach [] env := by intro _; rfl)
    (hb : ∀ env, attributeBase (.Name n p7) fld env (eval (.Name n p7) env) = eval (.Name n p7) env := by intro _; rfl) (e5 : ∀ env, starEach [Expr.Name z p10] env = (false, eval (.Name z p10) env) :: starEach [] env := by intro _; rfl)
    (b1 : ∀ env, (backTo p4 (starEach [Expr.Name y p3] env)).any (·.1) = false := by intro _; rfl) :
    tS (X.suite a ((a, oe) :: pn)) [.Return (some (.BoolOp .And [.UnaryOp .Not (.Call (.Name "isinstance" p1) [.Name n p2, .Name y p3] [] p4) p5, .Call (.Name "_law_same" p6) [.Attribute (.Name n p7) fld p8, .Call (.Name "tuple" p9) [.Name z p10] [] p11] [] p12] p13)) p14] D' (σ.set i (some (.ref a))) H := by
  obtain ⟨j, vz, j1, j2, j3⟩ := hzh.get hE
  have hji : i ≠ j := fun q => hzn (Option.some.inj ((q ▸ j1).symm.trans hi))
  have j2' : (σ.set i (some (.ref a)))[j]? = some (some vz) := by rw [List.getElem?_set_ne hji]; exact j2
  refine suite_sameX (R := Sq false R) (x := xs) fx hz hf hE hO hd hv T hi hn hy G hk hdep (pe_callTy call_tuple_of (show Gl X _ from gl_of fx g2) (by show X.mg _ = _; rw [fx.mg]; exact m2) PyProof.Rows.boot_tuple (pa_cons (pe_var (i := j) (by show X.N[j]? = _; rw [fx.ns]; exact j1) (by show Vis X.env.scope z; rw [fx.sc]; exact hzv) dz dz2) pa_nil (e5 _)) (he := e5 _) (hpl := by rfl)) (fun Q q => ?_) hQ m1 g1 g3 g4 dn dn2 dy e1 e2 (by intro _; rfl) (by intro _; rfl) hb b1 (by intro _; rfl)
  refine ⟨vz, j2', ?_⟩
  obtain ⟨ad, us, rfl, q0, q2⟩ := sq_ho j3
  cases bz with
  | true =>
    refine ⟨ad, us, rfl, .inl ⟨SqL.of (hO.ex _ _ q0), fun l hl => ?_⟩⟩
    obtain ⟨O2, e2⟩ := hO.new (o := .tup us) hl
    exact q _ _ _ e2 O2 ⟨l, us, rfl, upd_same, q2.mp fun _ _ q => (R _).mono e2 q⟩
  | false => exact ⟨ad, us, rfl, .inr ⟨SqT.of (hO.ex _ _ q0), q _ B H (Ex.refl B) hO ⟨ad, us, rfl, q0, q2⟩⟩⟩
/-! ### how often a thing stands in a list -/
def cnt {α : Type} [DecidableEq α] (xs : List α) (v : α) : Int := ((xs.countP fun y => decide (y = v) : Nat) : Int)
theorem count_eqU {x : V} : ∀ {xs : List V} {us : List Value}, Vals xs us → xs.all flatV = true → us.countP (eqU x) = xs.countP fun y => eqV y x
  | _, _, .nil, _ => rfl
  | y :: xs, u :: us, .cons r t, f => by
    rw [List.all_cons, Bool.and_eq_true] at f
    rw [List.countP_cons, List.countP_cons, eqU_of r f.1, count_eqU t f.2]
def rCntF (K : PySem.W.Frag) : V → List V → Hp → VK → Prop := fun x xs H Q => ∃ (p : Addr) (vs : List V) (k : V), x = .ref p ∧ xs = [k] ∧ SqL K H p vs ∧ flatV k = true ∧ vs.all flatV = true ∧ Q (.int ((vs.countP fun y => eqV y k : Nat) : Int)) H
theorem mt_cntF {X : Cx} : MtR X "list.count" (rCntF X.K) := by
  intro pins s σ H x xs v us Q I rx rxs h
  obtain ⟨p, vs, k, rfl, rfl, hs, fk, fs, q⟩ := h
  cases rx
  obtain ⟨u, rfl, ru⟩ := rxs.one
  obtain ⟨its, rv, ⟨⟨cls, dd, data, sl⟩, n, ho, hc, hdn, hd⟩, hlen⟩ := I.list hs
  simp only at hc hd
  subst hc hd
  refine call_meets PySem.F.slot_list_count ⟨_, ho, rfl⟩ PySem.F.entry_list_count (PySem.F.args_list_count_2 _ _)
    (SeqAt.list_countAt p its.toArray n dd sl u (eqU k)) ⟨ho, fun y hy => mem_eqAt ru fk rv fs y (by simpa using hy), ?_⟩
  refine ⟨.int _, H, I.tok _, ⟨s.toks, ?_⟩, q⟩
  rw [show its.toArray.toList = its by simp, count_eqU rv fs]
theorem d_cnt {c : Cc} {Γ : En} {ω ω1 ω2 : Ws} {o e : Expr} {apos cpos : Pos} {α : Type} [DecidableEq α] {R : α → Sh} [hF : FlatR R] {xs : List α} {v : α} (ho : DE c Γ ω o (L R xs) ω1) (he : DE c Γ ω1 e (R v) ω2) (hb : ∀ env, attributeBase o "count" env (eval o env) = eval o env := by intro _; rfl) (hln : (apos.endLine == cpos.line) = true := by rfl)
    (hfew : ∀ env, ((backTo cpos (starEach [e] env)).all (fun x => !x.1) && (backToKw cpos (keywordEach [] env)).all (fun x => x.1.isSome)
      && decide (([e] : List Expr).length + ([] : List Keyword).length + (if ([] : List Keyword).isEmpty then 0 else 1) < 30)) = true := by intro _; rfl) (hs : ∀ env, starEach [e] env = (false, eval e env) :: starEach [] env := by intro _; rfl) (hpl : ∀ env, (backTo cpos (starEach ([] : List Expr) env)).any (·.1) = false := by intro _; rfl) :
    DE c Γ ω (.Call (.Attribute o "count" apos) [e] [] cpos) (I (cnt xs v)) ω2 := by
  intro X fx F σ B H hE hO Q hQ
  refine tW.of (pe_bm PySem.F.plainAttrs_list PySem.F.slot_list_count PySem.F.type_list_count mt_cntF pe_w pa_w (hb _) (hfew _) hln (hs _) (hpl _)) ?_
  refine ho X fx F σ B H hE hO _ fun w B1 H1 e1 O1 p1 => ?_
  obtain ⟨f, h1, h2, h3⟩ := hF.val
  obtain ⟨a', vs, rfl, g1, g2⟩ := sq_get p1 (Ex.refl _)
  have ev := all_val h1 g2
  subst ev
  refine ⟨.inl ⟨rfl, _, SqL.of (O1.ex _ _ g1)⟩, ?_⟩
  refine a_cons he a_nil hs X fx F σ B1 H1 (hE.mono e1) O1 _ fun us B2 H2 e2 O2 p2 => ?_
  obtain ⟨z, rfl, hz⟩ := all1 p2
  rw [h1] at hz
  have hz : z = f v := hz
  subst hz
  refine ⟨a', _, f v, rfl, rfl, SqL.of (O2.ex _ _ (e2 _ _ g1)), h2 _, by rw [List.all_map]; exact List.all_eq_true.mpr fun x _ => h2 x, ?_⟩
  refine hQ _ B2 H2 (e1.trans e2) O2 ?_
  show V.int _ = V.int _
  congr 1
  unfold cnt
  rw [List.countP_map]
  congr 2
  funext y
  exact h3 y v
end ZZ

set_option maxHeartbeats 2000000
/-! what the defs compute (printed by tr.py) -/
namespace K24
open PySem ZZ L2
def g_CLASSES : List Str := ["a", "b", "c"]
def v_by_value (items_ : (List (Str × Int))) : (List (Str × Int)) :=
  ((srt (leP leI leS) (items_.map fun y3 => (((0 : Int) - y3.2), y3.1))).map fun y1 => (y1.2, ((0 : Int) - y1.1)))
def o_by_value (items_ : (List (Str × Int))) : Prop :=
  (oks items_) ∧ (okall (fun y2 : (Str × Int) => True) items_) ∧ (oks items_) ∧ (okall (fun y3 : (Str × Int) => True) items_) ∧ (oks (srt (leP leI leS) (items_.map fun y3 => (((0 : Int) - y3.2), y3.1)))) ∧ (okall (fun y1 : (Int × Str) => True) (srt (leP leI leS) (items_.map fun y3 => (((0 : Int) - y3.2), y3.1)))) ∧ True

def v_beginning (pairs_ : (List (Str × Int))) (percent_ : Int) : Int :=
  lt ((pairs_.map fun y1 => y1.2).sum) fun total_2 => lt (0 : Int) fun told_3 => thn (forC (fun (s4 : Int) (y5 : Int) => (cond (decide ((total_2 * percent_) ≤ (s4 * (100 : Int)))) (.rt y5) (lt (s4 + (gt pairs_ y5).2) fun told_6 => .nx told_6) : Ctl (Int) (Int))) told_3 (rng 0 ((pairs_.length : Int) + (1 : Int)))) (fun r => r) (fun s10 => (pairs_.length : Int))
def o_beginning (pairs_ : (List (Str × Int))) (percent_ : Int) : Prop :=
  (oks pairs_) ∧ (okall (fun y1 : (Str × Int) => True) pairs_) ∧ lt ((pairs_.map fun y1 => y1.2).sum) fun total_2 => lt (0 : Int) fun told_3 => (okr 0 ((pairs_.length : Int) + (1 : Int))) ∧ okC (fun (s4 : Int) (y5 : Int) => (cond (decide ((total_2 * percent_) ≤ (s4 * (100 : Int)))) (.rt y5) (lt (s4 + (gt pairs_ y5).2) fun told_6 => .nx told_6) : Ctl (Int) (Int))) (fun (s4 : Int) (y5 : Int) => (CMul s4 (100 : Int)) ∧ (CMul total_2 percent_) ∧ okI (decide ((total_2 * percent_) ≤ (s4 * (100 : Int)))) (True) ((okx pairs_ y5) ∧ lt (s4 + (gt pairs_ y5).2) fun told_6 => True)) (fun s10 : Int => True) told_3 (rng 0 ((pairs_.length : Int) + (1 : Int)))

def v_classes (items_ : (List (Str × Int))) (first_ : Int) (second_ : Int) : (List (Str × Str)) :=
  lt (v_by_value items_) fun pairs_1 => lt ((v_beginning pairs_1 first_), (v_beginning pairs_1 second_)) fun bounds_2 => lt ([] : List (Str × Str)) fun found_4 => lt (List.foldl (fun (s5 : (List (Str × Str))) (y6 : (Int × (Str × Int))) => lt (s5 ++ [(y6.2.1, (gt g_CLASSES (((([bounds_2.1, bounds_2.2]).filter fun y7 => (decide (y7 ≤ y6.1))).map fun y7 => y7).length : Int)))]) fun found_8 => found_8) found_4 (enm pairs_1)) fun s13 => (srt (leP leS leS) s13)
def o_classes (items_ : (List (Str × Int))) (first_ : Int) (second_ : Int) : Prop :=
  (o_by_value items_) ∧ lt (v_by_value items_) fun pairs_1 => (o_beginning pairs_1 first_) ∧ (o_beginning pairs_1 second_) ∧ lt ((v_beginning pairs_1 first_), (v_beginning pairs_1 second_)) fun bounds_2 => lt ([] : List (Str × Str)) fun found_4 => okL (fun (s5 : (List (Str × Str))) (y6 : (Int × (Str × Int))) => lt (s5 ++ [(y6.2.1, (gt g_CLASSES (((([bounds_2.1, bounds_2.2]).filter fun y7 => (decide (y7 ≤ y6.1))).map fun y7 => y7).length : Int)))]) fun found_8 => found_8) (fun (s5 : (List (Str × Str))) (y6 : (Int × (Str × Int))) => (oks s5) ∧ (oks ([bounds_2.1, bounds_2.2])) ∧ (okall (fun y7 : Int => (True) ∧ ((decide (y7 ≤ y6.1)) = true → True)) ([bounds_2.1, bounds_2.2])) ∧ (okx g_CLASSES (((([bounds_2.1, bounds_2.2]).filter fun y7 => (decide (y7 ≤ y6.1))).map fun y7 => y7).length : Int)) ∧ lt (s5 ++ [(y6.2.1, (gt g_CLASSES (((([bounds_2.1, bounds_2.2]).filter fun y7 => (decide (y7 ≤ y6.1))).map fun y7 => y7).length : Int)))]) fun found_8 => True) found_4 (enm pairs_1) ∧ lt (List.foldl (fun (s5 : (List (Str × Str))) (y6 : (Int × (Str × Int))) => lt (s5 ++ [(y6.2.1, (gt g_CLASSES (((([bounds_2.1, bounds_2.2]).filter fun y7 => (decide (y7 ≤ y6.1))).map fun y7 => y7).length : Int)))]) fun found_8 => found_8) found_4 (enm pairs_1)) fun s13 => True

def v_rests (items_ : (List (Str × Int))) (first_ : Int) (second_ : Int) (periods_ : (List Int)) : (List (Str × (Int × Int))) :=
  lt (v_classes items_ first_ second_) fun told_1 => lt ([] : List (Str × (Int × Int))) fun found_3 => lt (List.foldl (fun (s4 : (List (Str × (Int × Int)))) (y5 : (Str × Int)) => lt ((told_1.filter fun y6 => (decide (y6.2 = y5.1))).map fun y6 => y6.1) fun members_7 => lt (List.foldl (fun (s9 : (List (Str × (Int × Int)))) (y10 : (Int × Str)) => lt (dput s9 y10.2 ((y10.1 % y5.2), y5.2)) fun found_11 => found_11) s4 (enm members_7)) fun s14 => s14) found_3 (List.zip g_CLASSES periods_)) fun s17 => s17
def o_rests (items_ : (List (Str × Int))) (first_ : Int) (second_ : Int) (periods_ : (List Int)) : Prop :=
  (o_classes items_ first_ second_) ∧ lt (v_classes items_ first_ second_) fun told_1 => lt ([] : List (Str × (Int × Int))) fun found_3 => okL (fun (s4 : (List (Str × (Int × Int)))) (y5 : (Str × Int)) => lt ((told_1.filter fun y6 => (decide (y6.2 = y5.1))).map fun y6 => y6.1) fun members_7 => lt (List.foldl (fun (s9 : (List (Str × (Int × Int)))) (y10 : (Int × Str)) => lt (dput s9 y10.2 ((y10.1 % y5.2), y5.2)) fun found_11 => found_11) s4 (enm members_7)) fun s14 => s14) (fun (s4 : (List (Str × (Int × Int)))) (y5 : (Str × Int)) => (oks told_1) ∧ (okall (fun y6 : (Str × Str) => (True) ∧ ((decide (y6.2 = y5.1)) = true → True)) told_1) ∧ lt ((told_1.filter fun y6 => (decide (y6.2 = y5.1))).map fun y6 => y6.1) fun members_7 => okL (fun (s9 : (List (Str × (Int × Int)))) (y10 : (Int × Str)) => lt (dput s9 y10.2 ((y10.1 % y5.2), y5.2)) fun found_11 => found_11) (fun (s9 : (List (Str × (Int × Int)))) (y10 : (Int × Str)) => (0 < y5.2) ∧ (oks s9) ∧ lt (dput s9 y10.2 ((y10.1 % y5.2), y5.2)) fun found_11 => True) s4 (enm members_7) ∧ lt (List.foldl (fun (s9 : (List (Str × (Int × Int)))) (y10 : (Int × Str)) => lt (dput s9 y10.2 ((y10.1 % y5.2), y5.2)) fun found_11 => found_11) s4 (enm members_7)) fun s14 => True) found_3 (List.zip g_CLASSES periods_) ∧ lt (List.foldl (fun (s4 : (List (Str × (Int × Int)))) (y5 : (Str × Int)) => lt ((told_1.filter fun y6 => (decide (y6.2 = y5.1))).map fun y6 => y6.1) fun members_7 => lt (List.foldl (fun (s9 : (List (Str × (Int × Int)))) (y10 : (Int × Str)) => lt (dput s9 y10.2 ((y10.1 % y5.2), y5.2)) fun found_11 => found_11) s4 (enm members_7)) fun s14 => s14) found_3 (List.zip g_CLASSES periods_)) fun s17 => True

def v_count_plan (items_ : (List (Str × Int))) (first_ : Int) (second_ : Int) (periods_ : (List Int)) (days_ : Int) : (List (List Str)) :=
  lt (v_rests items_ first_ second_ periods_) fun told_1 => lt ([] : List (List Str)) fun found_3 => lt (List.foldl (fun (s4 : (List (List Str))) (y5 : Int) => lt (s4 ++ [(((srt leS (told_1.map Prod.fst)).filter fun y6 => (decide ((y5 % (dgv told_1 y6).2) = (dgv told_1 y6).1))).map fun y6 => y6)]) fun found_7 => found_7) found_3 (rng 0 days_)) fun s12 => s12
def o_count_plan (items_ : (List (Str × Int))) (first_ : Int) (second_ : Int) (periods_ : (List Int)) (days_ : Int) : Prop :=
  (o_rests items_ first_ second_ periods_) ∧ lt (v_rests items_ first_ second_ periods_) fun told_1 => lt ([] : List (List Str)) fun found_3 => (okr 0 days_) ∧ okL (fun (s4 : (List (List Str))) (y5 : Int) => lt (s4 ++ [(((srt leS (told_1.map Prod.fst)).filter fun y6 => (decide ((y5 % (dgv told_1 y6).2) = (dgv told_1 y6).1))).map fun y6 => y6)]) fun found_7 => found_7) (fun (s4 : (List (List Str))) (y5 : Int) => (oks s4) ∧ (told_1.length < 64) ∧ (oks (srt leS (told_1.map Prod.fst))) ∧ (okall (fun y6 : Str => (((dget told_1 y6).isSome = true) ∧ (0 < (dgv told_1 y6).2) ∧ ((dget told_1 y6).isSome = true)) ∧ ((decide ((y5 % (dgv told_1 y6).2) = (dgv told_1 y6).1)) = true → True)) (srt leS (told_1.map Prod.fst))) ∧ lt (s4 ++ [(((srt leS (told_1.map Prod.fst)).filter fun y6 => (decide ((y5 % (dgv told_1 y6).2) = (dgv told_1 y6).1))).map fun y6 => y6)]) fun found_7 => True) found_3 (rng 0 days_) ∧ lt (List.foldl (fun (s4 : (List (List Str))) (y5 : Int) => lt (s4 ++ [(((srt leS (told_1.map Prod.fst)).filter fun y6 => (decide ((y5 % (dgv told_1 y6).2) = (dgv told_1 y6).1))).map fun y6 => y6)]) fun found_7 => found_7) found_3 (rng 0 days_)) fun s12 => True

def v_loads (plan_ : (List (List Str))) : (List Int) :=
  (plan_.map fun y1 => (y1.length : Int))
def o_loads (plan_ : (List (List Str))) : Prop :=
  (oks plan_) ∧ (okall (fun y1 : (List Str) => True) plan_) ∧ True

def v_next_count (items_ : (List (Str × Int))) (first_ : Int) (second_ : Int) (periods_ : (List Int)) (item_ : Str) (day_ : Int) : Int :=
  lt (v_rests items_ first_ second_ periods_) fun told_1 => cond (!(dhas told_1 item_)) (default) (lt (dgv told_1 item_) fun t2 => (day_ + ((t2.1 - day_) % t2.2)))
def o_next_count (items_ : (List (Str × Int))) (first_ : Int) (second_ : Int) (periods_ : (List Int)) (item_ : Str) (day_ : Int) : Prop :=
  (o_rests items_ first_ second_ periods_) ∧ lt (v_rests items_ first_ second_ periods_) fun told_1 => okI (!(dhas told_1 item_)) (False) (((dget told_1 item_).isSome = true) ∧ lt (dgv told_1 item_) fun t2 => (0 < t2.2) ∧ True)
def x_next_count (items_ : (List (Str × Int))) (first_ : Int) (second_ : Int) (periods_ : (List Int)) (item_ : Str) (day_ : Int) : Prop :=
  (o_rests items_ first_ second_ periods_) ∧ lt (v_rests items_ first_ second_ periods_) fun told_1 => okI (!(dhas told_1 item_)) (True) (((dget told_1 item_).isSome = true) ∧ lt (dgv told_1 item_) fun t2 => False)

def v_wanting (wishes_ : (List Int)) (height_ : Int) : (List Int) :=
  (((enm wishes_).filter fun y1 => (decide (height_ < y1.2))).map fun y1 => y1.1)
def o_wanting (wishes_ : (List Int)) (height_ : Int) : Prop :=
  (oks (enm wishes_)) ∧ (okall (fun y1 : (Int × Int) => (True) ∧ ((decide (height_ < y1.2)) = true → True)) (enm wishes_)) ∧ True

def v_poured (wishes_ : (List Int)) (height_ : Int) : Int :=
  (wishes_.map fun y1 => (min y1 height_)).sum
def o_poured (wishes_ : (List Int)) (height_ : Int) : Prop :=
  (oks wishes_) ∧ (okall (fun y1 : Int => True) wishes_) ∧ True

def v_height_of (pool_ : Int) (wishes_ : (List Int)) : Int :=
  lt (0 : Int) fun low_1 => lt (mxd wishes_ (0 : Int)) fun high_2 => thn (whC (fun (s3 : Int × Int) => (decide (s3.1 < s3.2))) (fun (s3 : Int × Int) => (lt (((s3.1 + s3.2) + (1 : Int)) / (2 : Int)) fun middle_4 => lt (cond (decide ((v_poured wishes_ middle_4) ≤ pool_)) (lt middle_4 fun low_6 => (low_6, s3.2)) (lt (middle_4 - (1 : Int)) fun high_7 => (s3.1, high_7))) fun s5 => .nx (s5.1, s5.2) : Ctl (Int × Int) (Int))) 1000000 (low_1, high_2)) (fun r => r) (fun s10 => s10.1)
def o_height_of (pool_ : Int) (wishes_ : (List Int)) : Prop :=
  lt (0 : Int) fun low_1 => lt (mxd wishes_ (0 : Int)) fun high_2 => okW (fun (s3 : Int × Int) => (decide (s3.1 < s3.2))) (fun (s3 : Int × Int) => (lt (((s3.1 + s3.2) + (1 : Int)) / (2 : Int)) fun middle_4 => lt (cond (decide ((v_poured wishes_ middle_4) ≤ pool_)) (lt middle_4 fun low_6 => (low_6, s3.2)) (lt (middle_4 - (1 : Int)) fun high_7 => (s3.1, high_7))) fun s5 => .nx (s5.1, s5.2) : Ctl (Int × Int) (Int))) (fun (s3 : Int × Int) => True) (fun (s3 : Int × Int) => (CDiv ((s3.1 + s3.2) + (1 : Int)) (2 : Int)) ∧ lt (((s3.1 + s3.2) + (1 : Int)) / (2 : Int)) fun middle_4 => (o_poured wishes_ middle_4) ∧ okI (decide ((v_poured wishes_ middle_4) ≤ pool_)) (lt middle_4 fun low_6 => True) (lt (middle_4 - (1 : Int)) fun high_7 => True) ∧ lt (cond (decide ((v_poured wishes_ middle_4) ≤ pool_)) (lt middle_4 fun low_6 => (low_6, s3.2)) (lt (middle_4 - (1 : Int)) fun high_7 => (s3.1, high_7))) fun s5 => True) (fun s10 : Int × Int => True) 1000000 (low_1, high_2)

def v_fair_shares (pool_ : Int) (wishes_ : (List Int)) : (List Int) :=
  lt (v_height_of pool_ wishes_) fun height_1 => lt (wishes_.map fun y2 => (min y2 height_1)) fun shares_4 => lt (pool_ - (v_poured wishes_ height_1)) fun left_5 => lt (List.foldl (fun (s6 : (List Int)) (y7 : Int) => lt (stx s6 y7 (gt s6 y7 + (1 : Int))) fun shares_8 => shares_8) shares_4 (cut (v_wanting wishes_ height_1) none (some left_5))) fun s10 => s10
def o_fair_shares (pool_ : Int) (wishes_ : (List Int)) : Prop :=
  (o_height_of pool_ wishes_) ∧ lt (v_height_of pool_ wishes_) fun height_1 => (oks wishes_) ∧ (okall (fun y2 : Int => True) wishes_) ∧ lt (wishes_.map fun y2 => (min y2 height_1)) fun shares_4 => (o_poured wishes_ height_1) ∧ lt (pool_ - (v_poured wishes_ height_1)) fun left_5 => (o_wanting wishes_ height_1) ∧ okL (fun (s6 : (List Int)) (y7 : Int) => lt (stx s6 y7 (gt s6 y7 + (1 : Int))) fun shares_8 => shares_8) (fun (s6 : (List Int)) (y7 : Int) => (okx s6 y7) ∧ lt (stx s6 y7 (gt s6 y7 + (1 : Int))) fun shares_8 => True) shares_4 (cut (v_wanting wishes_ height_1) none (some left_5)) ∧ lt (List.foldl (fun (s6 : (List Int)) (y7 : Int) => lt (stx s6 y7 (gt s6 y7 + (1 : Int))) fun shares_8 => shares_8) shares_4 (cut (v_wanting wishes_ height_1) none (some left_5))) fun s10 => True

def v_unserved (pool_ : Int) (wishes_ : (List Int)) : (List Int) :=
  lt (v_fair_shares pool_ wishes_) fun shares_1 => (((enm wishes_).filter fun y2 => (decide ((gt shares_1 y2.1) < y2.2))).map fun y2 => y2.1)
def o_unserved (pool_ : Int) (wishes_ : (List Int)) : Prop :=
  (o_fair_shares pool_ wishes_) ∧ lt (v_fair_shares pool_ wishes_) fun shares_1 => (oks (enm wishes_)) ∧ (okall (fun y2 : (Int × Int) => ((okx shares_1 y2.1)) ∧ ((decide ((gt shares_1 y2.1) < y2.2)) = true → True)) (enm wishes_)) ∧ True

def v_level (pool_ : Int) (wishes_ : (List Int)) : (Option Int) :=
  lt (v_fair_shares pool_ wishes_) fun shares_1 => (mno ((v_unserved pool_ wishes_).map fun y2 => (gt shares_1 y2)))
def o_level (pool_ : Int) (wishes_ : (List Int)) : Prop :=
  (o_fair_shares pool_ wishes_) ∧ lt (v_fair_shares pool_ wishes_) fun shares_1 => (o_unserved pool_ wishes_) ∧ (oks (v_unserved pool_ wishes_)) ∧ (okall (fun y2 : Int => (okx shares_1 y2)) (v_unserved pool_ wishes_)) ∧ True

def v_rounds_of (pool_ : Int) (wishes_ : (List Int)) : (List Int) :=
  lt ([] : List Int) fun places_2 => lt (0 : Int) fun height_3 => lt (v_wanting wishes_ height_3) fun round_now_4 => thn (whC (fun (s5 : (List Int) × Int × (List Int)) => ((decide ((0 : Int) < (s5.2.2.length : Int))) && (decide ((s5.1.length : Int) < pool_)))) (fun (s5 : (List Int) × Int × (List Int)) => (lt (s5.1 ++ s5.2.2) fun places_7 => lt (s5.2.1 + (1 : Int)) fun height_8 => lt (v_wanting wishes_ height_8) fun round_now_9 => .nx (places_7, height_8, round_now_9) : Ctl ((List Int) × Int × (List Int)) ((List Int)))) 1000000 (places_2, height_3, round_now_4)) (fun r => r) (fun s12 => (cut s12.1 none (some pool_)))
def o_rounds_of (pool_ : Int) (wishes_ : (List Int)) : Prop :=
  lt ([] : List Int) fun places_2 => lt (0 : Int) fun height_3 => (o_wanting wishes_ height_3) ∧ lt (v_wanting wishes_ height_3) fun round_now_4 => okW (fun (s5 : (List Int) × Int × (List Int)) => ((decide ((0 : Int) < (s5.2.2.length : Int))) && (decide ((s5.1.length : Int) < pool_)))) (fun (s5 : (List Int) × Int × (List Int)) => (lt (s5.1 ++ s5.2.2) fun places_7 => lt (s5.2.1 + (1 : Int)) fun height_8 => lt (v_wanting wishes_ height_8) fun round_now_9 => .nx (places_7, height_8, round_now_9) : Ctl ((List Int) × Int × (List Int)) ((List Int)))) (fun (s5 : (List Int) × Int × (List Int)) => True) (fun (s5 : (List Int) × Int × (List Int)) => (s5.1.length + s5.2.2.length ≤ 16777216) ∧ lt (s5.1 ++ s5.2.2) fun places_7 => lt (s5.2.1 + (1 : Int)) fun height_8 => (o_wanting wishes_ height_8) ∧ lt (v_wanting wishes_ height_8) fun round_now_9 => True) (fun s12 : (List Int) × Int × (List Int) => True) 1000000 (places_2, height_3, round_now_4)

def v_fair_steps (pool_ : Int) (wishes_ : (List Int)) : (List (Option Int)) :=
  lt (v_rounds_of pool_ wishes_) fun places_1 => lt (pool_ - (places_1.length : Int)) fun beyond_2 => ((([none] : List (Option Int)) ++ (places_1.map some)) ++ (rep ([none] : List (Option Int)) beyond_2))
def o_fair_steps (pool_ : Int) (wishes_ : (List Int)) : Prop :=
  (o_rounds_of pool_ wishes_) ∧ lt (v_rounds_of pool_ wishes_) fun places_1 => lt (pool_ - (places_1.length : Int)) fun beyond_2 => (([none] : List (Option Int)).length + (places_1.map some).length ≤ 16777216) ∧ (okrep ([none] : List (Option Int)) beyond_2) ∧ ((([none] : List (Option Int)) ++ (places_1.map some)).length + (rep ([none] : List (Option Int)) beyond_2).length ≤ 16777216) ∧ True

def v_pieces_there (stock_ : (List (Str × Int))) : (List (Str × Int)) :=
  (dmk (stock_.map fun y1 => (y1.1, y1.2)))
def o_pieces_there (stock_ : (List (Str × Int))) : Prop :=
  (oks stock_) ∧ (okall (fun y1 : (Str × Int) => True) stock_) ∧ True

def v_pieces_needed (orders_ : (List ((Str × Int) × (Str × Int)))) (chosen_ : (List Int)) : (List (Str × Int)) :=
  lt ([] : List (Str × Int)) fun needed_2 => lt (List.foldl (fun (s3 : (List (Str × Int))) (y4 : Int) => lt (List.foldl (fun (s5 : (List (Str × Int))) (y6 : (Str × Int)) => lt (dput s5 y6.1 ((dgd s5 y6.1 (0 : Int)) + y6.2)) fun needed_7 => needed_7) s3 ([(gt orders_ y4).1, (gt orders_ y4).2])) fun s9 => s9) needed_2 chosen_) fun s12 => s12
def o_pieces_needed (orders_ : (List ((Str × Int) × (Str × Int)))) (chosen_ : (List Int)) : Prop :=
  lt ([] : List (Str × Int)) fun needed_2 => okL (fun (s3 : (List (Str × Int))) (y4 : Int) => lt (List.foldl (fun (s5 : (List (Str × Int))) (y6 : (Str × Int)) => lt (dput s5 y6.1 ((dgd s5 y6.1 (0 : Int)) + y6.2)) fun needed_7 => needed_7) s3 ([(gt orders_ y4).1, (gt orders_ y4).2])) fun s9 => s9) (fun (s3 : (List (Str × Int))) (y4 : Int) => (okx orders_ y4) ∧ (okx orders_ y4) ∧ okL (fun (s5 : (List (Str × Int))) (y6 : (Str × Int)) => lt (dput s5 y6.1 ((dgd s5 y6.1 (0 : Int)) + y6.2)) fun needed_7 => needed_7) (fun (s5 : (List (Str × Int))) (y6 : (Str × Int)) => (oks s5) ∧ lt (dput s5 y6.1 ((dgd s5 y6.1 (0 : Int)) + y6.2)) fun needed_7 => True) s3 ([(gt orders_ y4).1, (gt orders_ y4).2]) ∧ lt (List.foldl (fun (s5 : (List (Str × Int))) (y6 : (Str × Int)) => lt (dput s5 y6.1 ((dgd s5 y6.1 (0 : Int)) + y6.2)) fun needed_7 => needed_7) s3 ([(gt orders_ y4).1, (gt orders_ y4).2])) fun s9 => True) needed_2 chosen_ ∧ lt (List.foldl (fun (s3 : (List (Str × Int))) (y4 : Int) => lt (List.foldl (fun (s5 : (List (Str × Int))) (y6 : (Str × Int)) => lt (dput s5 y6.1 ((dgd s5 y6.1 (0 : Int)) + y6.2)) fun needed_7 => needed_7) s3 ([(gt orders_ y4).1, (gt orders_ y4).2])) fun s9 => s9) needed_2 chosen_) fun s12 => True

def v_too_few (stock_ : (List (Str × Int))) (orders_ : (List ((Str × Int) × (Str × Int)))) (chosen_ : (List Int)) : (List Str) :=
  lt (v_pieces_there stock_) fun there_1 => lt (v_pieces_needed orders_ chosen_) fun needed_2 => (((srt leS (needed_2.map Prod.fst)).filter fun y3 => (decide ((dgd there_1 y3 (0 : Int)) < (dgv needed_2 y3)))).map fun y3 => y3)
def o_too_few (stock_ : (List (Str × Int))) (orders_ : (List ((Str × Int) × (Str × Int)))) (chosen_ : (List Int)) : Prop :=
  (o_pieces_there stock_) ∧ lt (v_pieces_there stock_) fun there_1 => (o_pieces_needed orders_ chosen_) ∧ lt (v_pieces_needed orders_ chosen_) fun needed_2 => ((needed_2.map Prod.fst).length < 64) ∧ (oks (srt leS (needed_2.map Prod.fst))) ∧ (okall (fun y3 : Str => (((dget needed_2 y3).isSome = true)) ∧ ((decide ((dgd there_1 y3 (0 : Int)) < (dgv needed_2 y3))) = true → True)) (srt leS (needed_2.map Prod.fst))) ∧ True

def v_fits (stock_ : (List (Str × Int))) (orders_ : (List ((Str × Int) × (Str × Int)))) (chosen_ : (List Int)) : Bool :=
  (decide (((v_too_few stock_ orders_ chosen_).length : Int) = (0 : Int)))
def o_fits (stock_ : (List (Str × Int))) (orders_ : (List ((Str × Int) × (Str × Int)))) (chosen_ : (List Int)) : Prop :=
  (o_too_few stock_ orders_ chosen_) ∧ True

def v_later_places (orders_ : (List ((Str × Int) × (Str × Int)))) (chosen_ : (List Int)) : (List Int) :=
  cond (decide ((chosen_.length : Int) = (0 : Int))) ((rng 0 (orders_.length : Int))) ((rng ((gt chosen_ (-1 : Int)) + (1 : Int)) (orders_.length : Int)))
def o_later_places (orders_ : (List ((Str × Int) × (Str × Int)))) (chosen_ : (List Int)) : Prop :=
  okI (decide ((chosen_.length : Int) = (0 : Int))) ((okr 0 (orders_.length : Int)) ∧ ((orders_.length : Int) ≤ 16777216) ∧ True) ((okx chosen_ (-1 : Int)) ∧ (okr ((gt chosen_ (-1 : Int)) + (1 : Int)) (orders_.length : Int)) ∧ ((orders_.length : Int) - ((gt chosen_ (-1 : Int)) + (1 : Int)) ≤ 16777216) ∧ True)

def v_sets_from : Nat → (List (Str × Int)) → (List ((Str × Int) × (Str × Int))) → (List Int) → (List (List Int))
  | 0, _, _, _ => default
  | n + 1, stock_, orders_, chosen_ =>
  lt ([chosen_]) fun found_2 => lt (List.foldl (fun (s3 : (List (List Int))) (y4 : Int) => lt (chosen_ ++ [y4]) fun wider_5 => lt (cond (v_fits stock_ orders_ wider_5) (lt (s3 ++ (v_sets_from n stock_ orders_ wider_5)) fun found_7 => found_7) (s3)) fun s6 => s6) found_2 (v_later_places orders_ chosen_)) fun s12 => s12
def o_sets_from : Nat → (List (Str × Int)) → (List ((Str × Int) × (Str × Int))) → (List Int) → Prop
  | 0, _, _, _ => False
  | n + 1, stock_, orders_, chosen_ =>
  lt ([chosen_]) fun found_2 => (o_later_places orders_ chosen_) ∧ okL (fun (s3 : (List (List Int))) (y4 : Int) => lt (chosen_ ++ [y4]) fun wider_5 => lt (cond (v_fits stock_ orders_ wider_5) (lt (s3 ++ (v_sets_from n stock_ orders_ wider_5)) fun found_7 => found_7) (s3)) fun s6 => s6) (fun (s3 : (List (List Int))) (y4 : Int) => (chosen_.length + ([y4]).length ≤ 16777216) ∧ lt (chosen_ ++ [y4]) fun wider_5 => (o_fits stock_ orders_ wider_5) ∧ okI (v_fits stock_ orders_ wider_5) ((o_sets_from n stock_ orders_ wider_5) ∧ (s3.length + (v_sets_from n stock_ orders_ wider_5).length ≤ 16777216) ∧ lt (s3 ++ (v_sets_from n stock_ orders_ wider_5)) fun found_7 => True) (True) ∧ lt (cond (v_fits stock_ orders_ wider_5) (lt (s3 ++ (v_sets_from n stock_ orders_ wider_5)) fun found_7 => found_7) (s3)) fun s6 => True) found_2 (v_later_places orders_ chosen_) ∧ lt (List.foldl (fun (s3 : (List (List Int))) (y4 : Int) => lt (chosen_ ++ [y4]) fun wider_5 => lt (cond (v_fits stock_ orders_ wider_5) (lt (s3 ++ (v_sets_from n stock_ orders_ wider_5)) fun found_7 => found_7) (s3)) fun s6 => s6) found_2 (v_later_places orders_ chosen_)) fun s12 => True

def v_fitting_sets (stock_ : (List (Str × Int))) (orders_ : (List ((Str × Int) × (Str × Int)))) : (List (List Int)) :=
  (v_sets_from 9 stock_ orders_ ([]))
def o_fitting_sets (stock_ : (List (Str × Int))) (orders_ : (List ((Str × Int) × (Str × Int)))) : Prop :=
  (o_sets_from 9 stock_ orders_ ([])) ∧ True

def v_first_of_best__0 (sets_ : (List (List Int))) (ranks_ : (List Int)) : (List Int) :=
  lt (0 : Int) fun best_1 => lt (List.foldl (fun (s2 : Int) (y3 : (Int × Int)) => lt (cond (decide ((gt ranks_ s2) < y3.2)) (lt y3.1 fun best_5 => best_5) (s2)) fun s4 => s4) best_1 (enm ranks_)) fun s7 => (gt sets_ s7)
def o_first_of_best__0 (sets_ : (List (List Int))) (ranks_ : (List Int)) : Prop :=
  lt (0 : Int) fun best_1 => okL (fun (s2 : Int) (y3 : (Int × Int)) => lt (cond (decide ((gt ranks_ s2) < y3.2)) (lt y3.1 fun best_5 => best_5) (s2)) fun s4 => s4) (fun (s2 : Int) (y3 : (Int × Int)) => (okx ranks_ s2) ∧ okI (decide ((gt ranks_ s2) < y3.2)) (lt y3.1 fun best_5 => True) (True) ∧ lt (cond (decide ((gt ranks_ s2) < y3.2)) (lt y3.1 fun best_5 => best_5) (s2)) fun s4 => True) best_1 (enm ranks_) ∧ lt (List.foldl (fun (s2 : Int) (y3 : (Int × Int)) => lt (cond (decide ((gt ranks_ s2) < y3.2)) (lt y3.1 fun best_5 => best_5) (s2)) fun s4 => s4) best_1 (enm ranks_)) fun s7 => (okx sets_ s7) ∧ True

def v_most_whole (stock_ : (List (Str × Int))) (orders_ : (List ((Str × Int) × (Str × Int)))) : (List Int) :=
  lt (v_fitting_sets stock_ orders_) fun sets_1 => (v_first_of_best__0 sets_1 (sets_1.map fun y2 => (y2.length : Int)))
def o_most_whole (stock_ : (List (Str × Int))) (orders_ : (List ((Str × Int) × (Str × Int)))) : Prop :=
  (o_fitting_sets stock_ orders_) ∧ lt (v_fitting_sets stock_ orders_) fun sets_1 => (oks sets_1) ∧ (okall (fun y2 : (List Int) => True) sets_1) ∧ (o_first_of_best__0 sets_1 (sets_1.map fun y2 => (y2.length : Int))) ∧ True

def v_value_of (values_ : (List Int)) (chosen_ : (List Int)) : Int :=
  (chosen_.map fun y1 => (gt values_ y1)).sum
def o_value_of (values_ : (List Int)) (chosen_ : (List Int)) : Prop :=
  (oks chosen_) ∧ (okall (fun y1 : Int => (okx values_ y1)) chosen_) ∧ True

def v_first_of_best__1 (sets_ : (List (List Int))) (ranks_ : (List (Int × Int))) : (List Int) :=
  lt (0 : Int) fun best_1 => lt (List.foldl (fun (s2 : Int) (y3 : (Int × (Int × Int))) => lt (cond (ltp (gt ranks_ s2) y3.2) (lt y3.1 fun best_5 => best_5) (s2)) fun s4 => s4) best_1 (enm ranks_)) fun s7 => (gt sets_ s7)
def o_first_of_best__1 (sets_ : (List (List Int))) (ranks_ : (List (Int × Int))) : Prop :=
  lt (0 : Int) fun best_1 => okL (fun (s2 : Int) (y3 : (Int × (Int × Int))) => lt (cond (ltp (gt ranks_ s2) y3.2) (lt y3.1 fun best_5 => best_5) (s2)) fun s4 => s4) (fun (s2 : Int) (y3 : (Int × (Int × Int))) => (okx ranks_ s2) ∧ okI (ltp (gt ranks_ s2) y3.2) (lt y3.1 fun best_5 => True) (True) ∧ lt (cond (ltp (gt ranks_ s2) y3.2) (lt y3.1 fun best_5 => best_5) (s2)) fun s4 => True) best_1 (enm ranks_) ∧ lt (List.foldl (fun (s2 : Int) (y3 : (Int × (Int × Int))) => lt (cond (ltp (gt ranks_ s2) y3.2) (lt y3.1 fun best_5 => best_5) (s2)) fun s4 => s4) best_1 (enm ranks_)) fun s7 => (okx sets_ s7) ∧ True

def v_best_value (stock_ : (List (Str × Int))) (orders_ : (List ((Str × Int) × (Str × Int)))) (values_ : (List Int)) : (List Int) :=
  lt (v_fitting_sets stock_ orders_) fun sets_1 => (v_first_of_best__1 sets_1 (sets_1.map fun y2 => ((v_value_of values_ y2), (-(y2.length : Int)))))
def o_best_value (stock_ : (List (Str × Int))) (orders_ : (List ((Str × Int) × (Str × Int)))) (values_ : (List Int)) : Prop :=
  (o_fitting_sets stock_ orders_) ∧ lt (v_fitting_sets stock_ orders_) fun sets_1 => (oks sets_1) ∧ (okall (fun y2 : (List Int) => (o_value_of values_ y2)) sets_1) ∧ (o_first_of_best__1 sets_1 (sets_1.map fun y2 => ((v_value_of values_ y2), (-(y2.length : Int))))) ∧ True

def v_blocking (stock_ : (List (Str × Int))) (orders_ : (List ((Str × Int) × (Str × Int)))) (chosen_ : (List Int)) (at_ : Int) : (List Str) :=
  (v_too_few stock_ orders_ (chosen_ ++ [at_]))
def o_blocking (stock_ : (List (Str × Int))) (orders_ : (List ((Str × Int) × (Str × Int)))) (chosen_ : (List Int)) (at_ : Int) : Prop :=
  (chosen_.length + ([at_]).length ≤ 16777216) ∧ (o_too_few stock_ orders_ (chosen_ ++ [at_])) ∧ True

def v__law_pool (script_ : (List Int)) (many_ : Int) : (List Int) :=
  lt ((cut script_ none (some (63 : Int))).map fun y1 => y1) fun left_3 => lt (cond (decide ((left_3.length : Int) = (0 : Int))) (lt ([(0 : Int)]) fun left_6 => left_6) (left_3)) fun s4 => lt ([] : List Int) fun pool_39 => lt (7 : Int) fun jar_40 => lt (List.foldl (fun (s41 : (List Int) × (List Int) × Int) (y42 : Int) => lt (y42 % (s41.1.length : Int)) fun at_43 => lt (gt s41.1 at_43) fun cell_44 => lt (cond (decide ((1000000000000000000 : Int) ≤ cell_44)) (lt (s41.2.1 ++ [(cell_44 % (1000003 : Int))]) fun pool_46 => lt (stx s41.1 at_43 (cell_44 / (1000003 : Int))) fun left_47 => (left_47, pool_46, s41.2.2)) (lt (((((s41.2.2 * s41.2.2) + ((cell_44 % (1000003 : Int)) * (40014 : Int))) + (y42 * (7919 : Int))) + (11 : Int)) % (1000003 : Int)) fun jar_52 => lt (s41.2.1 ++ [(((jar_52 * (48271 : Int)) + (jar_52 / (7 : Int))) % (999983 : Int))]) fun pool_53 => (s41.1, pool_53, jar_52))) fun s45 => (s45.1, s45.2.1, s45.2.2)) (s4, pool_39, jar_40) (rng 0 many_)) fun s65 => lt s65.2.1.reverse fun pool_66 => pool_66
def o__law_pool (script_ : (List Int)) (many_ : Int) : Prop :=
  (oks (cut script_ none (some (63 : Int)))) ∧ (okall (fun y1 : Int => True) (cut script_ none (some (63 : Int)))) ∧ lt ((cut script_ none (some (63 : Int))).map fun y1 => y1) fun left_3 => okI (decide ((left_3.length : Int) = (0 : Int))) (lt ([(0 : Int)]) fun left_6 => True) (True) ∧ lt (cond (decide ((left_3.length : Int) = (0 : Int))) (lt ([(0 : Int)]) fun left_6 => left_6) (left_3)) fun s4 => lt ([] : List Int) fun pool_39 => lt (7 : Int) fun jar_40 => (okr 0 many_) ∧ okL (fun (s41 : (List Int) × (List Int) × Int) (y42 : Int) => lt (y42 % (s41.1.length : Int)) fun at_43 => lt (gt s41.1 at_43) fun cell_44 => lt (cond (decide ((1000000000000000000 : Int) ≤ cell_44)) (lt (s41.2.1 ++ [(cell_44 % (1000003 : Int))]) fun pool_46 => lt (stx s41.1 at_43 (cell_44 / (1000003 : Int))) fun left_47 => (left_47, pool_46, s41.2.2)) (lt (((((s41.2.2 * s41.2.2) + ((cell_44 % (1000003 : Int)) * (40014 : Int))) + (y42 * (7919 : Int))) + (11 : Int)) % (1000003 : Int)) fun jar_52 => lt (s41.2.1 ++ [(((jar_52 * (48271 : Int)) + (jar_52 / (7 : Int))) % (999983 : Int))]) fun pool_53 => (s41.1, pool_53, jar_52))) fun s45 => (s45.1, s45.2.1, s45.2.2)) (fun (s41 : (List Int) × (List Int) × Int) (y42 : Int) => (0 < (s41.1.length : Int)) ∧ lt (y42 % (s41.1.length : Int)) fun at_43 => (okx s41.1 at_43) ∧ lt (gt s41.1 at_43) fun cell_44 => okI (decide ((1000000000000000000 : Int) ≤ cell_44)) ((oks s41.2.1) ∧ (0 < (1000003 : Int)) ∧ lt (s41.2.1 ++ [(cell_44 % (1000003 : Int))]) fun pool_46 => (CDiv cell_44 (1000003 : Int)) ∧ (okx s41.1 at_43) ∧ lt (stx s41.1 at_43 (cell_44 / (1000003 : Int))) fun left_47 => True) ((CMul s41.2.2 s41.2.2) ∧ (0 < (1000003 : Int)) ∧ (CMul (cell_44 % (1000003 : Int)) (40014 : Int)) ∧ (CMul y42 (7919 : Int)) ∧ (0 < (1000003 : Int)) ∧ lt (((((s41.2.2 * s41.2.2) + ((cell_44 % (1000003 : Int)) * (40014 : Int))) + (y42 * (7919 : Int))) + (11 : Int)) % (1000003 : Int)) fun jar_52 => (oks s41.2.1) ∧ (CMul jar_52 (48271 : Int)) ∧ (CDiv jar_52 (7 : Int)) ∧ (0 < (999983 : Int)) ∧ lt (s41.2.1 ++ [(((jar_52 * (48271 : Int)) + (jar_52 / (7 : Int))) % (999983 : Int))]) fun pool_53 => True) ∧ lt (cond (decide ((1000000000000000000 : Int) ≤ cell_44)) (lt (s41.2.1 ++ [(cell_44 % (1000003 : Int))]) fun pool_46 => lt (stx s41.1 at_43 (cell_44 / (1000003 : Int))) fun left_47 => (left_47, pool_46, s41.2.2)) (lt (((((s41.2.2 * s41.2.2) + ((cell_44 % (1000003 : Int)) * (40014 : Int))) + (y42 * (7919 : Int))) + (11 : Int)) % (1000003 : Int)) fun jar_52 => lt (s41.2.1 ++ [(((jar_52 * (48271 : Int)) + (jar_52 / (7 : Int))) % (999983 : Int))]) fun pool_53 => (s41.1, pool_53, jar_52))) fun s45 => True) (s4, pool_39, jar_40) (rng 0 many_) ∧ lt (List.foldl (fun (s41 : (List Int) × (List Int) × Int) (y42 : Int) => lt (y42 % (s41.1.length : Int)) fun at_43 => lt (gt s41.1 at_43) fun cell_44 => lt (cond (decide ((1000000000000000000 : Int) ≤ cell_44)) (lt (s41.2.1 ++ [(cell_44 % (1000003 : Int))]) fun pool_46 => lt (stx s41.1 at_43 (cell_44 / (1000003 : Int))) fun left_47 => (left_47, pool_46, s41.2.2)) (lt (((((s41.2.2 * s41.2.2) + ((cell_44 % (1000003 : Int)) * (40014 : Int))) + (y42 * (7919 : Int))) + (11 : Int)) % (1000003 : Int)) fun jar_52 => lt (s41.2.1 ++ [(((jar_52 * (48271 : Int)) + (jar_52 / (7 : Int))) % (999983 : Int))]) fun pool_53 => (s41.1, pool_53, jar_52))) fun s45 => (s45.1, s45.2.1, s45.2.2)) (s4, pool_39, jar_40) (rng 0 many_)) fun s65 => lt s65.2.1.reverse fun pool_66 => True

def v__law_draw (pool_ : (List Int)) (many_ : Int) : Int × (List Int) :=
  cond (decide ((pool_.length : Int) = (0 : Int))) (((0 : Int), pool_)) ((((gtl pool_) % many_), pool_.dropLast))
def o__law_draw (pool_ : (List Int)) (many_ : Int) : Prop :=
  okI (decide ((pool_.length : Int) = (0 : Int))) (True) ((pool_ ≠ []) ∧ (0 < many_) ∧ True)

def v__law_word (pool_ : (List Int)) (words_ : (List Str)) : Str × (List Int) :=
  lt ("abcdefghijklmnopqrstuvwxy" : Str) fun letters_1 => lt ((v__law_draw pool_ (1000003 : Int)).1, (v__law_draw pool_ (1000003 : Int)).2) fun s2 => lt ((v__law_draw s2.2 (1000003 : Int)).1, (v__law_draw s2.2 (1000003 : Int)).2) fun s4 => lt (((1 : Int) + (v__law_draw s4.2 (8 : Int)).1), (v__law_draw s4.2 (8 : Int)).2) fun s6 => lt (lt ((decide ((v__law_draw s6.2 (2 : Int)).1 = (0 : Int))), (v__law_draw s6.2 (2 : Int)).2) fun s8 => cond s8.1 (lt ((1 : Int) + (s6.1 % (2 : Int))) fun size_11 => (s8.2, size_11)) ((s8.2, s6.1))) fun s10 => lt ("" : Str) fun word_13 => lt (List.foldl (fun (s14 : Int × Int × Str) (y15 : Int) => lt (cond (decide ((y15 % (2 : Int)) = (0 : Int))) (lt (s14.2.2 ++ (sgt letters_1 (s14.1 % (25 : Int)))) fun word_17 => lt (s14.1 / (25 : Int)) fun one_18 => (one_18, s14.2.1, word_17)) (lt (s14.2.2 ++ (sgt letters_1 (s14.2.1 % (25 : Int)))) fun word_23 => lt (s14.2.1 / (25 : Int)) fun other_24 => (s14.1, other_24, word_23))) fun s16 => (s16.1, s16.2.1, s16.2.2)) (s2.1, s4.1, word_13) (rng 0 s10.2)) fun s30 => lt (cutS s30.2.2 none (some (7 : Int))) fun base_31 => lt (List.foldl (fun (s32 : Str) (y33 : Int) => lt (cond (decide (s32 ∈ words_)) (lt ((sgt letters_1 y33) ++ base_31) fun word_35 => word_35) (s32)) fun s34 => s34) s30.2.2 (rng 0 (25 : Int))) fun s38 => (s38, s10.1)
def o__law_word (pool_ : (List Int)) (words_ : (List Str)) : Prop :=
  lt ("abcdefghijklmnopqrstuvwxy" : Str) fun letters_1 => (o__law_draw pool_ (1000003 : Int)) ∧ lt ((v__law_draw pool_ (1000003 : Int)).1, (v__law_draw pool_ (1000003 : Int)).2) fun s2 => (o__law_draw s2.2 (1000003 : Int)) ∧ lt ((v__law_draw s2.2 (1000003 : Int)).1, (v__law_draw s2.2 (1000003 : Int)).2) fun s4 => (o__law_draw s4.2 (8 : Int)) ∧ lt (((1 : Int) + (v__law_draw s4.2 (8 : Int)).1), (v__law_draw s4.2 (8 : Int)).2) fun s6 => (o__law_draw s6.2 (2 : Int)) ∧ (lt ((decide ((v__law_draw s6.2 (2 : Int)).1 = (0 : Int))), (v__law_draw s6.2 (2 : Int)).2) fun s8 => okI s8.1 ((0 < (2 : Int)) ∧ lt ((1 : Int) + (s6.1 % (2 : Int))) fun size_11 => True) (True)) ∧ lt (lt ((decide ((v__law_draw s6.2 (2 : Int)).1 = (0 : Int))), (v__law_draw s6.2 (2 : Int)).2) fun s8 => cond s8.1 (lt ((1 : Int) + (s6.1 % (2 : Int))) fun size_11 => (s8.2, size_11)) ((s8.2, s6.1))) fun s10 => lt ("" : Str) fun word_13 => (okr 0 s10.2) ∧ okL (fun (s14 : Int × Int × Str) (y15 : Int) => lt (cond (decide ((y15 % (2 : Int)) = (0 : Int))) (lt (s14.2.2 ++ (sgt letters_1 (s14.1 % (25 : Int)))) fun word_17 => lt (s14.1 / (25 : Int)) fun one_18 => (one_18, s14.2.1, word_17)) (lt (s14.2.2 ++ (sgt letters_1 (s14.2.1 % (25 : Int)))) fun word_23 => lt (s14.2.1 / (25 : Int)) fun other_24 => (s14.1, other_24, word_23))) fun s16 => (s16.1, s16.2.1, s16.2.2)) (fun (s14 : Int × Int × Str) (y15 : Int) => (0 < (2 : Int)) ∧ okI (decide ((y15 % (2 : Int)) = (0 : Int))) ((0 < (25 : Int)) ∧ (0 ≤ (s14.1 % (25 : Int)) ∧ (s14.1 % (25 : Int)) < letters_1.length ∧ (s14.1 % (25 : Int)) < 2 ^ 63) ∧ (s14.2.2.length + (sgt letters_1 (s14.1 % (25 : Int))).length ≤ 16777216) ∧ lt (s14.2.2 ++ (sgt letters_1 (s14.1 % (25 : Int)))) fun word_17 => (CDiv s14.1 (25 : Int)) ∧ lt (s14.1 / (25 : Int)) fun one_18 => True) ((0 < (25 : Int)) ∧ (0 ≤ (s14.2.1 % (25 : Int)) ∧ (s14.2.1 % (25 : Int)) < letters_1.length ∧ (s14.2.1 % (25 : Int)) < 2 ^ 63) ∧ (s14.2.2.length + (sgt letters_1 (s14.2.1 % (25 : Int))).length ≤ 16777216) ∧ lt (s14.2.2 ++ (sgt letters_1 (s14.2.1 % (25 : Int)))) fun word_23 => (CDiv s14.2.1 (25 : Int)) ∧ lt (s14.2.1 / (25 : Int)) fun other_24 => True) ∧ lt (cond (decide ((y15 % (2 : Int)) = (0 : Int))) (lt (s14.2.2 ++ (sgt letters_1 (s14.1 % (25 : Int)))) fun word_17 => lt (s14.1 / (25 : Int)) fun one_18 => (one_18, s14.2.1, word_17)) (lt (s14.2.2 ++ (sgt letters_1 (s14.2.1 % (25 : Int)))) fun word_23 => lt (s14.2.1 / (25 : Int)) fun other_24 => (s14.1, other_24, word_23))) fun s16 => True) (s2.1, s4.1, word_13) (rng 0 s10.2) ∧ lt (List.foldl (fun (s14 : Int × Int × Str) (y15 : Int) => lt (cond (decide ((y15 % (2 : Int)) = (0 : Int))) (lt (s14.2.2 ++ (sgt letters_1 (s14.1 % (25 : Int)))) fun word_17 => lt (s14.1 / (25 : Int)) fun one_18 => (one_18, s14.2.1, word_17)) (lt (s14.2.2 ++ (sgt letters_1 (s14.2.1 % (25 : Int)))) fun word_23 => lt (s14.2.1 / (25 : Int)) fun other_24 => (s14.1, other_24, word_23))) fun s16 => (s16.1, s16.2.1, s16.2.2)) (s2.1, s4.1, word_13) (rng 0 s10.2)) fun s30 => (s30.2.2.length ≤ 16777216) ∧ lt (cutS s30.2.2 none (some (7 : Int))) fun base_31 => (okr 0 (25 : Int)) ∧ okL (fun (s32 : Str) (y33 : Int) => lt (cond (decide (s32 ∈ words_)) (lt ((sgt letters_1 y33) ++ base_31) fun word_35 => word_35) (s32)) fun s34 => s34) (fun (s32 : Str) (y33 : Int) => okI (decide (s32 ∈ words_)) ((0 ≤ y33 ∧ y33 < letters_1.length ∧ y33 < 2 ^ 63) ∧ ((sgt letters_1 y33).length + base_31.length ≤ 16777216) ∧ lt ((sgt letters_1 y33) ++ base_31) fun word_35 => True) (True) ∧ lt (cond (decide (s32 ∈ words_)) (lt ((sgt letters_1 y33) ++ base_31) fun word_35 => word_35) (s32)) fun s34 => True) s30.2.2 (rng 0 (25 : Int)) ∧ lt (List.foldl (fun (s32 : Str) (y33 : Int) => lt (cond (decide (s32 ∈ words_)) (lt ((sgt letters_1 y33) ++ base_31) fun word_35 => word_35) (s32)) fun s34 => s34) s30.2.2 (rng 0 (25 : Int))) fun s38 => True

def v__law_values (pool_ : (List Int)) (many_ : Int) : (List Int) × (List Int) :=
  lt ([] : List Int) fun values_2 => lt (List.foldl (fun (s3 : (List Int) × (List Int)) (y4 : Int) => lt (((v__law_draw s3.1 (4 : Int)).1 * (50 : Int)), (v__law_draw s3.1 (4 : Int)).2) fun s5 => lt ((v__law_draw s5.2 (12 : Int)).1, (v__law_draw s5.2 (12 : Int)).2) fun s7 => lt ((v__law_draw s7.2 (100000 : Int)).1, (v__law_draw s7.2 (100000 : Int)).2) fun s9 => lt (s3.2 ++ [(gt ([s5.1, s7.1, s9.1]) ((v__law_draw s9.2 (3 : Int)).1))], (v__law_draw s9.2 (3 : Int)).2) fun s11 => (s11.2, s11.1)) (pool_, values_2) (rng 0 many_)) fun s20 => lt (cond (decide (s20.2.sum = (0 : Int))) (lt (stx s20.2 (0 : Int) (1 : Int)) fun values_22 => values_22) (s20.2)) fun s21 => (s21, s20.1)
def o__law_values (pool_ : (List Int)) (many_ : Int) : Prop :=
  lt ([] : List Int) fun values_2 => (okr 0 many_) ∧ okL (fun (s3 : (List Int) × (List Int)) (y4 : Int) => lt (((v__law_draw s3.1 (4 : Int)).1 * (50 : Int)), (v__law_draw s3.1 (4 : Int)).2) fun s5 => lt ((v__law_draw s5.2 (12 : Int)).1, (v__law_draw s5.2 (12 : Int)).2) fun s7 => lt ((v__law_draw s7.2 (100000 : Int)).1, (v__law_draw s7.2 (100000 : Int)).2) fun s9 => lt (s3.2 ++ [(gt ([s5.1, s7.1, s9.1]) ((v__law_draw s9.2 (3 : Int)).1))], (v__law_draw s9.2 (3 : Int)).2) fun s11 => (s11.2, s11.1)) (fun (s3 : (List Int) × (List Int)) (y4 : Int) => (o__law_draw s3.1 (4 : Int)) ∧ (CMul ((v__law_draw s3.1 (4 : Int)).1) (50 : Int)) ∧ lt (((v__law_draw s3.1 (4 : Int)).1 * (50 : Int)), (v__law_draw s3.1 (4 : Int)).2) fun s5 => (o__law_draw s5.2 (12 : Int)) ∧ lt ((v__law_draw s5.2 (12 : Int)).1, (v__law_draw s5.2 (12 : Int)).2) fun s7 => (o__law_draw s7.2 (100000 : Int)) ∧ lt ((v__law_draw s7.2 (100000 : Int)).1, (v__law_draw s7.2 (100000 : Int)).2) fun s9 => (oks s3.2) ∧ (o__law_draw s9.2 (3 : Int)) ∧ (okx ([s5.1, s7.1, s9.1]) ((v__law_draw s9.2 (3 : Int)).1)) ∧ lt (s3.2 ++ [(gt ([s5.1, s7.1, s9.1]) ((v__law_draw s9.2 (3 : Int)).1))], (v__law_draw s9.2 (3 : Int)).2) fun s11 => True) (pool_, values_2) (rng 0 many_) ∧ lt (List.foldl (fun (s3 : (List Int) × (List Int)) (y4 : Int) => lt (((v__law_draw s3.1 (4 : Int)).1 * (50 : Int)), (v__law_draw s3.1 (4 : Int)).2) fun s5 => lt ((v__law_draw s5.2 (12 : Int)).1, (v__law_draw s5.2 (12 : Int)).2) fun s7 => lt ((v__law_draw s7.2 (100000 : Int)).1, (v__law_draw s7.2 (100000 : Int)).2) fun s9 => lt (s3.2 ++ [(gt ([s5.1, s7.1, s9.1]) ((v__law_draw s9.2 (3 : Int)).1))], (v__law_draw s9.2 (3 : Int)).2) fun s11 => (s11.2, s11.1)) (pool_, values_2) (rng 0 many_)) fun s20 => okI (decide (s20.2.sum = (0 : Int))) ((okx s20.2 (0 : Int)) ∧ lt (stx s20.2 (0 : Int) (1 : Int)) fun values_22 => True) (True) ∧ lt (cond (decide (s20.2.sum = (0 : Int))) (lt (stx s20.2 (0 : Int) (1 : Int)) fun values_22 => values_22) (s20.2)) fun s21 => True

def v__law_falling (values_ : (List Int)) : (List Int) :=
  lt ([] : List Int) fun order_2 => lt (List.foldl (fun (s3 : (List Int)) (y4 : Int) => lt (-1 : Int) fun best_5 => lt (List.foldl (fun (s6 : Int) (y7 : Int) => lt (cond ((!(decide (y7 ∈ s3))) && ((decide (s6 < (0 : Int))) || (decide ((gt values_ s6) < (gt values_ y7))))) (lt y7 fun best_11 => best_11) (s6)) fun s10 => s10) best_5 (rng 0 (values_.length : Int))) fun s13 => lt (s3 ++ [s13]) fun order_14 => order_14) order_2 (rng 0 (values_.length : Int))) fun s17 => s17
def o__law_falling (values_ : (List Int)) : Prop :=
  lt ([] : List Int) fun order_2 => (okr 0 (values_.length : Int)) ∧ okL (fun (s3 : (List Int)) (y4 : Int) => lt (-1 : Int) fun best_5 => lt (List.foldl (fun (s6 : Int) (y7 : Int) => lt (cond ((!(decide (y7 ∈ s3))) && ((decide (s6 < (0 : Int))) || (decide ((gt values_ s6) < (gt values_ y7))))) (lt y7 fun best_11 => best_11) (s6)) fun s10 => s10) best_5 (rng 0 (values_.length : Int))) fun s13 => lt (s3 ++ [s13]) fun order_14 => order_14) (fun (s3 : (List Int)) (y4 : Int) => lt (-1 : Int) fun best_5 => (okr 0 (values_.length : Int)) ∧ okL (fun (s6 : Int) (y7 : Int) => lt (cond ((!(decide (y7 ∈ s3))) && ((decide (s6 < (0 : Int))) || (decide ((gt values_ s6) < (gt values_ y7))))) (lt y7 fun best_11 => best_11) (s6)) fun s10 => s10) (fun (s6 : Int) (y7 : Int) => ((!(decide (y7 ∈ s3))) = true → ((decide (s6 < (0 : Int))) = false → (okx values_ y7) ∧ (okx values_ s6))) ∧ okI ((!(decide (y7 ∈ s3))) && ((decide (s6 < (0 : Int))) || (decide ((gt values_ s6) < (gt values_ y7))))) (lt y7 fun best_11 => True) (True) ∧ lt (cond ((!(decide (y7 ∈ s3))) && ((decide (s6 < (0 : Int))) || (decide ((gt values_ s6) < (gt values_ y7))))) (lt y7 fun best_11 => best_11) (s6)) fun s10 => True) best_5 (rng 0 (values_.length : Int)) ∧ lt (List.foldl (fun (s6 : Int) (y7 : Int) => lt (cond ((!(decide (y7 ∈ s3))) && ((decide (s6 < (0 : Int))) || (decide ((gt values_ s6) < (gt values_ y7))))) (lt y7 fun best_11 => best_11) (s6)) fun s10 => s10) best_5 (rng 0 (values_.length : Int))) fun s13 => (oks s3) ∧ lt (s3 ++ [s13]) fun order_14 => True) order_2 (rng 0 (values_.length : Int)) ∧ lt (List.foldl (fun (s3 : (List Int)) (y4 : Int) => lt (-1 : Int) fun best_5 => lt (List.foldl (fun (s6 : Int) (y7 : Int) => lt (cond ((!(decide (y7 ∈ s3))) && ((decide (s6 < (0 : Int))) || (decide ((gt values_ s6) < (gt values_ y7))))) (lt y7 fun best_11 => best_11) (s6)) fun s10 => s10) best_5 (rng 0 (values_.length : Int))) fun s13 => lt (s3 ++ [s13]) fun order_14 => order_14) order_2 (rng 0 (values_.length : Int))) fun s17 => True

def v__law_beginning (values_ : (List Int)) (order_ : (List Int)) (percent_ : Int) : Int :=
  lt (0 : Int) fun part_1 => lt (0 : Int) fun many_2 => thn (forC (fun (s3 : Int × Int) (y4 : Int) => (cond (decide ((percent_ * values_.sum) ≤ (s3.1 * (100 : Int)))) (.bk (s3.1, s3.2)) (lt (s3.1 + (gt values_ y4)) fun part_5 => lt (s3.2 + (1 : Int)) fun many_6 => .nx (part_5, many_6)) : Ctl (Int × Int) (Int))) (part_1, many_2) order_) (fun r => r) (fun s10 => s10.2)
def o__law_beginning (values_ : (List Int)) (order_ : (List Int)) (percent_ : Int) : Prop :=
  lt (0 : Int) fun part_1 => lt (0 : Int) fun many_2 => okC (fun (s3 : Int × Int) (y4 : Int) => (cond (decide ((percent_ * values_.sum) ≤ (s3.1 * (100 : Int)))) (.bk (s3.1, s3.2)) (lt (s3.1 + (gt values_ y4)) fun part_5 => lt (s3.2 + (1 : Int)) fun many_6 => .nx (part_5, many_6)) : Ctl (Int × Int) (Int))) (fun (s3 : Int × Int) (y4 : Int) => (CMul s3.1 (100 : Int)) ∧ (CMul percent_ values_.sum) ∧ okI (decide ((percent_ * values_.sum) ≤ (s3.1 * (100 : Int)))) (True) ((okx values_ y4) ∧ lt (s3.1 + (gt values_ y4)) fun part_5 => lt (s3.2 + (1 : Int)) fun many_6 => True)) (fun s10 : Int × Int => True) (part_1, many_2) order_

def v__law_percent (pool_ : (List Int)) (values_ : (List Int)) (order_ : (List Int)) : Int × (List Int) :=
  lt ((v__law_draw pool_ (order_.length : Int)).1, (v__law_draw pool_ (order_.length : Int)).2) fun s1 => lt (((cut order_ none (some (s1.1 + (1 : Int)))).map fun y3 => (gt values_ y3)).sum) fun part_4 => lt ((((part_4 * (100 : Int)) / values_.sum) + (v__law_draw s1.2 (2 : Int)).1), (v__law_draw s1.2 (2 : Int)).2) fun s5 => lt (lt ((decide ((v__law_draw s5.2 (3 : Int)).1 = (0 : Int))), (v__law_draw s5.2 (3 : Int)).2) fun s7 => cond s7.1 (lt ((1 : Int) + ((s1.1 * (100 : Int)) / (order_.length : Int))) fun percent_10 => (s7.2, percent_10)) ((s7.2, s5.1))) fun s9 => ((min (100 : Int) (max (1 : Int) s9.2)), s9.1)
def o__law_percent (pool_ : (List Int)) (values_ : (List Int)) (order_ : (List Int)) : Prop :=
  (o__law_draw pool_ (order_.length : Int)) ∧ lt ((v__law_draw pool_ (order_.length : Int)).1, (v__law_draw pool_ (order_.length : Int)).2) fun s1 => (oks (cut order_ none (some (s1.1 + (1 : Int))))) ∧ (okall (fun y3 : Int => (okx values_ y3)) (cut order_ none (some (s1.1 + (1 : Int))))) ∧ lt (((cut order_ none (some (s1.1 + (1 : Int)))).map fun y3 => (gt values_ y3)).sum) fun part_4 => (CMul part_4 (100 : Int)) ∧ (CDiv (part_4 * (100 : Int)) values_.sum) ∧ (o__law_draw s1.2 (2 : Int)) ∧ lt ((((part_4 * (100 : Int)) / values_.sum) + (v__law_draw s1.2 (2 : Int)).1), (v__law_draw s1.2 (2 : Int)).2) fun s5 => (o__law_draw s5.2 (3 : Int)) ∧ (lt ((decide ((v__law_draw s5.2 (3 : Int)).1 = (0 : Int))), (v__law_draw s5.2 (3 : Int)).2) fun s7 => okI s7.1 ((CMul s1.1 (100 : Int)) ∧ (CDiv (s1.1 * (100 : Int)) (order_.length : Int)) ∧ lt ((1 : Int) + ((s1.1 * (100 : Int)) / (order_.length : Int))) fun percent_10 => True) (True)) ∧ lt (lt ((decide ((v__law_draw s5.2 (3 : Int)).1 = (0 : Int))), (v__law_draw s5.2 (3 : Int)).2) fun s7 => cond s7.1 (lt ((1 : Int) + ((s1.1 * (100 : Int)) / (order_.length : Int))) fun percent_10 => (s7.2, percent_10)) ((s7.2, s5.1))) fun s9 => True

def v__law_rests (names_ : (List Str)) (marks_ : (List Str)) (periods_ : (List Int)) : (List (Int × Int)) :=
  lt ([] : List (Int × Int)) fun rests_v_2 => lt ([(0 : Int), (0 : Int), (0 : Int)]) fun seen_4 => lt (List.foldl (fun (s5 : (List (Int × Int)) × (List Int)) (y6 : Int) => lt (sidv ("abc" : Str) (gt marks_ y6)) fun at_7 => lt (s5.1 ++ [((gt periods_ at_7), ((gt s5.2 at_7) % (gt periods_ at_7)))]) fun rests_v_8 => lt (stx s5.2 at_7 ((gt s5.2 at_7) + (1 : Int))) fun seen_9 => (rests_v_8, seen_9)) (rests_v_2, seen_4) (rng 0 (names_.length : Int))) fun s19 => s19.1
def o__law_rests (names_ : (List Str)) (marks_ : (List Str)) (periods_ : (List Int)) : Prop :=
  lt ([] : List (Int × Int)) fun rests_v_2 => lt ([(0 : Int), (0 : Int), (0 : Int)]) fun seen_4 => (okr 0 (names_.length : Int)) ∧ okL (fun (s5 : (List (Int × Int)) × (List Int)) (y6 : Int) => lt (sidv ("abc" : Str) (gt marks_ y6)) fun at_7 => lt (s5.1 ++ [((gt periods_ at_7), ((gt s5.2 at_7) % (gt periods_ at_7)))]) fun rests_v_8 => lt (stx s5.2 at_7 ((gt s5.2 at_7) + (1 : Int))) fun seen_9 => (rests_v_8, seen_9)) (fun (s5 : (List (Int × Int)) × (List Int)) (y6 : Int) => (okx marks_ y6) ∧ ((sidx ("abc" : Str) (gt marks_ y6)).isSome = true) ∧ lt (sidv ("abc" : Str) (gt marks_ y6)) fun at_7 => (oks s5.1) ∧ (okx periods_ at_7) ∧ (okx s5.2 at_7) ∧ (okx periods_ at_7) ∧ (0 < (gt periods_ at_7)) ∧ lt (s5.1 ++ [((gt periods_ at_7), ((gt s5.2 at_7) % (gt periods_ at_7)))]) fun rests_v_8 => (okx s5.2 at_7) ∧ (okx s5.2 at_7) ∧ lt (stx s5.2 at_7 ((gt s5.2 at_7) + (1 : Int))) fun seen_9 => True) (rests_v_2, seen_4) (rng 0 (names_.length : Int)) ∧ lt (List.foldl (fun (s5 : (List (Int × Int)) × (List Int)) (y6 : Int) => lt (sidv ("abc" : Str) (gt marks_ y6)) fun at_7 => lt (s5.1 ++ [((gt periods_ at_7), ((gt s5.2 at_7) % (gt periods_ at_7)))]) fun rests_v_8 => lt (stx s5.2 at_7 ((gt s5.2 at_7) + (1 : Int))) fun seen_9 => (rests_v_8, seen_9)) (rests_v_2, seen_4) (rng 0 (names_.length : Int))) fun s19 => True

def v__law_plan (names_ : (List Str)) (rests_v_ : (List (Int × Int))) (days_ : Int) : (List (List Str)) :=
  lt ([] : List (List Str)) fun plan_2 => lt (List.foldl (fun (s3 : (List (List Str))) (y4 : Int) => lt (s3 ++ [(((rng 0 (names_.length : Int)).filter fun y5 => (decide ((y4 % (gt rests_v_ y5).1) = (gt rests_v_ y5).2))).map fun y5 => (gt names_ y5))]) fun plan_6 => plan_6) plan_2 (rng 0 days_)) fun s11 => s11
def o__law_plan (names_ : (List Str)) (rests_v_ : (List (Int × Int))) (days_ : Int) : Prop :=
  lt ([] : List (List Str)) fun plan_2 => (okr 0 days_) ∧ okL (fun (s3 : (List (List Str))) (y4 : Int) => lt (s3 ++ [(((rng 0 (names_.length : Int)).filter fun y5 => (decide ((y4 % (gt rests_v_ y5).1) = (gt rests_v_ y5).2))).map fun y5 => (gt names_ y5))]) fun plan_6 => plan_6) (fun (s3 : (List (List Str))) (y4 : Int) => (oks s3) ∧ (okr 0 (names_.length : Int)) ∧ (oks (rng 0 (names_.length : Int))) ∧ (okall (fun y5 : Int => ((okx rests_v_ y5) ∧ (0 < (gt rests_v_ y5).1) ∧ (okx rests_v_ y5)) ∧ ((decide ((y4 % (gt rests_v_ y5).1) = (gt rests_v_ y5).2)) = true → (okx names_ y5))) (rng 0 (names_.length : Int))) ∧ lt (s3 ++ [(((rng 0 (names_.length : Int)).filter fun y5 => (decide ((y4 % (gt rests_v_ y5).1) = (gt rests_v_ y5).2))).map fun y5 => (gt names_ y5))]) fun plan_6 => True) plan_2 (rng 0 days_) ∧ lt (List.foldl (fun (s3 : (List (List Str))) (y4 : Int) => lt (s3 ++ [(((rng 0 (names_.length : Int)).filter fun y5 => (decide ((y4 % (gt rests_v_ y5).1) = (gt rests_v_ y5).2))).map fun y5 => (gt names_ y5))]) fun plan_6 => plan_6) plan_2 (rng 0 days_)) fun s11 => True

def v__law_classes_hold (items_ : (List (Str × Int))) (first_ : Int) (second_ : Int) (names_ : (List Str)) (marks_ : (List Str)) : Bool :=
  lt ((rng 0 (names_.length : Int)).map fun y1 => ((gt names_ y1), (gt marks_ y1))) fun due_2 => lt items_ fun given_3 => cond (!true) (false) (cond (!decide (given_3 = items_)) (false) (true))
def o__law_classes_hold (items_ : (List (Str × Int))) (first_ : Int) (second_ : Int) (names_ : (List Str)) (marks_ : (List Str)) : Prop :=
  (okr 0 (names_.length : Int)) ∧ (oks (rng 0 (names_.length : Int))) ∧ (okall (fun y1 : Int => (okx names_ y1) ∧ (okx marks_ y1)) (rng 0 (names_.length : Int))) ∧ lt ((rng 0 (names_.length : Int)).map fun y1 => ((gt names_ y1), (gt marks_ y1))) fun due_2 => lt items_ fun given_3 => (o_classes given_3 first_ second_) ∧ ((v_classes given_3 first_ second_) = due_2) ∧ okI (!true) (True) ((okE (Sq true (pr2 Tx I)) given_3 ∧ okE (Sq true (pr2 Tx I)) items_) ∧ okI (!decide (given_3 = items_)) (True) ((o_classes items_ first_ second_) ∧ ((v_classes items_ first_ second_) = due_2) ∧ True))

def v__law_shares_hold (many_ : Int) (period_ : Int) : Bool :=
  lt (rep ([many_]) period_) fun wishes_1 => lt ((rng 0 period_).map fun y2 => ((many_ / period_) + (ZZ.b2i (decide (y2 < (many_ % period_)))))) fun due_3 => cond (!true) (false) (lt none fun low_4 => lt (cond ((decide ((0 : Int) < many_)) && (decide ((1 : Int) < period_))) (lt (some (many_ / period_)) fun low_7 => low_7) (low_4)) fun s6 => cond (!true) (false) (lt (([none] : List (Option Int)) ++ ((rng 0 many_).map fun y10 => (some (y10 % period_)))) fun steps_11 => cond (!true) (false) (lt ((many_ * period_) + (1 : Int)) fun pool_12 => cond (decide ((13 : Int) < pool_12)) (true) (cond (!true) (false) (cond (!true) (false) (lt ((([none] : List (Option Int)) ++ ((rng 0 (many_ * period_)).map fun y16 => (some (y16 % period_)))) ++ ([none] : List (Option Int))) fun steps_17 => true))))))
def o__law_shares_hold (many_ : Int) (period_ : Int) : Prop :=
  (okrep ([many_]) period_) ∧ lt (rep ([many_]) period_) fun wishes_1 => (okr 0 period_) ∧ (oks (rng 0 period_)) ∧ (okall (fun y2 : Int => (CDiv many_ period_) ∧ (0 < period_)) (rng 0 period_)) ∧ lt ((rng 0 period_).map fun y2 => ((many_ / period_) + (ZZ.b2i (decide (y2 < (many_ % period_)))))) fun due_3 => (o_fair_shares many_ wishes_1) ∧ ((v_fair_shares many_ wishes_1) = due_3) ∧ okI (!true) (True) (lt none fun low_4 => okI ((decide ((0 : Int) < many_)) && (decide ((1 : Int) < period_))) ((CDiv many_ period_) ∧ lt (some (many_ / period_)) fun low_7 => True) (True) ∧ lt (cond ((decide ((0 : Int) < many_)) && (decide ((1 : Int) < period_))) (lt (some (many_ / period_)) fun low_7 => low_7) (low_4)) fun s6 => (o_level many_ wishes_1) ∧ ((v_level many_ wishes_1) = s6) ∧ okI (!true) (True) ((okr 0 many_) ∧ (oks (rng 0 many_)) ∧ (okall (fun y10 : Int => (0 < period_)) (rng 0 many_)) ∧ (([none] : List (Option Int)).length + ((rng 0 many_).map fun y10 => (some (y10 % period_))).length ≤ 16777216) ∧ lt (([none] : List (Option Int)) ++ ((rng 0 many_).map fun y10 => (some (y10 % period_)))) fun steps_11 => (o_fair_steps many_ wishes_1) ∧ ((v_fair_steps many_ wishes_1) = steps_11) ∧ okI (!true) (True) ((CMul many_ period_) ∧ lt ((many_ * period_) + (1 : Int)) fun pool_12 => okI (decide ((13 : Int) < pool_12)) (True) ((o_fair_shares pool_12 wishes_1) ∧ ((v_fair_shares pool_12 wishes_1) = wishes_1) ∧ okI (!true) (True) ((o_level pool_12 wishes_1) ∧ ((v_level pool_12 wishes_1) = none) ∧ okI (!true) (True) ((CMul many_ period_) ∧ (okr 0 (many_ * period_)) ∧ (oks (rng 0 (many_ * period_))) ∧ (okall (fun y16 : Int => (0 < period_)) (rng 0 (many_ * period_))) ∧ (([none] : List (Option Int)).length + ((rng 0 (many_ * period_)).map fun y16 => (some (y16 % period_))).length ≤ 16777216) ∧ ((([none] : List (Option Int)) ++ ((rng 0 (many_ * period_)).map fun y16 => (some (y16 % period_)))).length + ([none] : List (Option Int)).length ≤ 16777216) ∧ lt ((([none] : List (Option Int)) ++ ((rng 0 (many_ * period_)).map fun y16 => (some (y16 % period_)))) ++ ([none] : List (Option Int))) fun steps_17 => (o_fair_steps pool_12 wishes_1) ∧ ((v_fair_steps pool_12 wishes_1) = steps_17) ∧ True))))))

def v__law_wholes_hold (names_ : (List Str)) (values_ : (List Int)) (order_ : (List Int)) (many_ : Int) (each_ : Int) (spare_ : Int) : Bool :=
  lt (names_.map fun y1 => ((y1, (1 : Int)), (("z" : Str), each_))) fun orders_2 => lt ((names_.map fun y5 => (y5, (1 : Int))) ++ [(("z" : Str), ((many_ * each_) + spare_))]) fun stock_6 => lt (srt leI ((cut order_ none (some many_)).map fun y8 => y8)) fun chosen_9 => lt (stock_6, orders_2, values_) fun given_10 => cond (!true) (false) (cond ((!decide (given_10.1 = stock_6)) || ((!decide (given_10.2.1 = orders_2)) || (!decide (given_10.2.2 = values_)))) (false) (cond (!true) (false) (cond (!true) (false) (cond (decide (many_ = (names_.length : Int))) (true) (lt (gt order_ many_) fun at_14 => cond (!true) (false) (lt (srt leI ((chosen_9 ++ [at_14]).map fun y16 => y16)) fun more_17 => true))))))
def o__law_wholes_hold (names_ : (List Str)) (values_ : (List Int)) (order_ : (List Int)) (many_ : Int) (each_ : Int) (spare_ : Int) : Prop :=
  (oks names_) ∧ (okall (fun y1 : Str => True) names_) ∧ lt (names_.map fun y1 => ((y1, (1 : Int)), (("z" : Str), each_))) fun orders_2 => (oks names_) ∧ (okall (fun y5 : Str => True) names_) ∧ (CMul many_ each_) ∧ ((names_.map fun y5 => (y5, (1 : Int))).length + ([(("z" : Str), ((many_ * each_) + spare_))]).length ≤ 16777216) ∧ lt ((names_.map fun y5 => (y5, (1 : Int))) ++ [(("z" : Str), ((many_ * each_) + spare_))]) fun stock_6 => (oks (cut order_ none (some many_))) ∧ (okall (fun y7 : Int => True) (cut order_ none (some many_))) ∧ (oks (cut order_ none (some many_))) ∧ (okall (fun y8 : Int => True) (cut order_ none (some many_))) ∧ lt (srt leI ((cut order_ none (some many_)).map fun y8 => y8)) fun chosen_9 => lt (stock_6, orders_2, values_) fun given_10 => (o_best_value given_10.1 given_10.2.1 given_10.2.2) ∧ ((v_best_value given_10.1 given_10.2.1 given_10.2.2) = chosen_9) ∧ okI (!true) (True) ((okE (Sq true (pr2 Tx I)) given_10.1 ∧ okE (Sq true (pr2 Tx I)) stock_6) ∧ ((!decide (given_10.1 = stock_6)) = false → (okE (Sq true (pr2 (pr2 Tx I) (pr2 Tx I))) given_10.2.1 ∧ okE (Sq true (pr2 (pr2 Tx I) (pr2 Tx I))) orders_2) ∧ ((!decide (given_10.2.1 = orders_2)) = false → (okE (Sq true I) given_10.2.2 ∧ okE (Sq true I) values_))) ∧ okI ((!decide (given_10.1 = stock_6)) || ((!decide (given_10.2.1 = orders_2)) || (!decide (given_10.2.2 = values_)))) (True) ((o_most_whole stock_6 orders_2) ∧ (okr 0 many_) ∧ (oks (rng 0 many_)) ∧ (okall (fun y13 : Int => True) (rng 0 many_)) ∧ ((v_most_whole stock_6 orders_2) = ((rng 0 many_).map fun y13 => y13)) ∧ okI (!true) (True) ((o_fits stock_6 orders_2 chosen_9) ∧ ((v_fits stock_6 orders_2 chosen_9) = true) ∧ okI (!true) (True) (okI (decide (many_ = (names_.length : Int))) (True) ((okx order_ many_) ∧ lt (gt order_ many_) fun at_14 => (o_blocking stock_6 orders_2 chosen_9 at_14) ∧ ((v_blocking stock_6 orders_2 chosen_9 at_14) = [("z" : Str)]) ∧ okI (!true) (True) ((chosen_9.length + ([at_14]).length ≤ 16777216) ∧ (oks (chosen_9 ++ [at_14])) ∧ (okall (fun y15 : Int => True) (chosen_9 ++ [at_14])) ∧ (chosen_9.length + ([at_14]).length ≤ 16777216) ∧ (oks (chosen_9 ++ [at_14])) ∧ (okall (fun y16 : Int => True) (chosen_9 ++ [at_14])) ∧ lt (srt leI ((chosen_9 ++ [at_14]).map fun y16 => y16)) fun more_17 => (o_fits stock_6 orders_2 more_17) ∧ ((v_fits stock_6 orders_2 more_17) = false) ∧ True))))))

def v__law_next_holds (items_ : (List (Str × Int))) (percents_ : (List Int)) (periods_ : (List Int)) (names_ : (List Str)) (rests_v_ : (List (Int × Int))) (at_ : Int) (day_ : Int) : Bool :=
  lt (day_ + (((gt rests_v_ at_).2 - day_) % (gt rests_v_ at_).1)) fun due_1 => lt (v_next_count items_ (gt percents_ (0 : Int)) (gt percents_ (1 : Int)) periods_ (gt names_ at_) day_) fun told_2 => cond (!true) (false) (true)
def o__law_next_holds (items_ : (List (Str × Int))) (percents_ : (List Int)) (periods_ : (List Int)) (names_ : (List Str)) (rests_v_ : (List (Int × Int))) (at_ : Int) (day_ : Int) : Prop :=
  (okx rests_v_ at_) ∧ (okx rests_v_ at_) ∧ (0 < (gt rests_v_ at_).1) ∧ lt (day_ + (((gt rests_v_ at_).2 - day_) % (gt rests_v_ at_).1)) fun due_1 => (okx percents_ (0 : Int)) ∧ (okx percents_ (1 : Int)) ∧ (okx names_ at_) ∧ (o_next_count items_ (gt percents_ (0 : Int)) (gt percents_ (1 : Int)) periods_ (gt names_ at_) day_) ∧ lt (v_next_count items_ (gt percents_ (0 : Int)) (gt percents_ (1 : Int)) periods_ (gt names_ at_) day_) fun told_2 => (told_2 = due_1) ∧ okI (!true) (True) ((okx percents_ (0 : Int)) ∧ (okx percents_ (1 : Int)) ∧ (x_next_count items_ (gt percents_ (0 : Int)) (gt percents_ (1 : Int)) periods_ ("zzz" : Str) day_) ∧ True)

def v__law_period (pool_ : (List Int)) : Int × (List Int) :=
  lt (((1 : Int) + (v__law_draw pool_ (4 : Int)).1), (v__law_draw pool_ (4 : Int)).2) fun s1 => lt (((1 : Int) + (v__law_draw s1.2 (20 : Int)).1), (v__law_draw s1.2 (20 : Int)).2) fun s3 => lt (((1 : Int) + (v__law_draw s3.2 (30 : Int)).1), (v__law_draw s3.2 (30 : Int)).2) fun s5 => ((gt ([s1.1, s3.1, s5.1]) ((v__law_draw s5.2 (3 : Int)).1)), (v__law_draw s5.2 (3 : Int)).2)
def o__law_period (pool_ : (List Int)) : Prop :=
  (o__law_draw pool_ (4 : Int)) ∧ lt (((1 : Int) + (v__law_draw pool_ (4 : Int)).1), (v__law_draw pool_ (4 : Int)).2) fun s1 => (o__law_draw s1.2 (20 : Int)) ∧ lt (((1 : Int) + (v__law_draw s1.2 (20 : Int)).1), (v__law_draw s1.2 (20 : Int)).2) fun s3 => (o__law_draw s3.2 (30 : Int)) ∧ lt (((1 : Int) + (v__law_draw s3.2 (30 : Int)).1), (v__law_draw s3.2 (30 : Int)).2) fun s5 => (o__law_draw s5.2 (3 : Int)) ∧ (okx ([s1.1, s3.1, s5.1]) ((v__law_draw s5.2 (3 : Int)).1)) ∧ True

def v__law_days (pool_ : (List Int)) (many_ : Int) : Int × (List Int) :=
  lt (((1 : Int) + (v__law_draw pool_ (12 : Int)).1), (v__law_draw pool_ (12 : Int)).2) fun s1 => lt (((decide ((v__law_draw s1.2 (5 : Int)).1 = (0 : Int))) && (decide (many_ < (7 : Int)))), (v__law_draw s1.2 (5 : Int)).2) fun s4 => cond s4.1 (((60 : Int), s4.2)) ((s1.1, s4.2))
def o__law_days (pool_ : (List Int)) (many_ : Int) : Prop :=
  (o__law_draw pool_ (12 : Int)) ∧ lt (((1 : Int) + (v__law_draw pool_ (12 : Int)).1), (v__law_draw pool_ (12 : Int)).2) fun s1 => (o__law_draw s1.2 (5 : Int)) ∧ lt (((decide ((v__law_draw s1.2 (5 : Int)).1 = (0 : Int))) && (decide (many_ < (7 : Int)))), (v__law_draw s1.2 (5 : Int)).2) fun s4 => okI s4.1 (True) (True)

def v_law (script_ : (List Int)) : Bool :=
  lt (v__law_pool script_ (200 : Int)) fun pool_2 => lt (((1 : Int) + (v__law_draw pool_2 (6 : Int)).1), (v__law_draw pool_2 (6 : Int)).2) fun s3 => lt (lt ((decide ((v__law_draw s3.2 (4 : Int)).1 = (0 : Int))), (v__law_draw s3.2 (4 : Int)).2) fun s5 => cond s5.1 (lt (s3.1 + (6 : Int)) fun many_8 => (s5.2, many_8)) ((s5.2, s3.1))) fun s7 => lt ([] : List Str) fun words_10 => lt (List.foldl (fun (s11 : (List Int) × (List Str)) (y12 : Int) => lt (s11.2 ++ [(v__law_word s11.1 s11.2).1], (v__law_word s11.1 s11.2).2) fun s13 => (s13.2, s13.1)) (s7.1, words_10) (rng 0 s7.2)) fun s17 => lt (srt leS (s17.2.map fun y20 => y20)) fun names_21 => lt ((v__law_values s17.1 s7.2).1, (v__law_values s17.1 s7.2).2) fun s22 => lt ((rng 0 s7.2).map fun y24 => ((gt names_21 y24), (gt s22.1 y24))) fun items_26 => lt ((v__law_draw s22.2 s7.2).1, (v__law_draw s22.2 s7.2).2) fun s27 => lt ((cut items_26 (some s27.1) none) ++ (cut items_26 none (some s27.1))) fun items_30 => lt (lt ((decide ((v__law_draw s27.2 (2 : Int)).1 = (0 : Int))), (v__law_draw s27.2 (2 : Int)).2) fun s31 => cond s31.1 (lt items_30.reverse fun items_34 => (s31.2, items_34)) ((s31.2, items_30))) fun s33 => lt (v__law_falling s22.1) fun order_35 => lt ([(v__law_percent s33.1 s22.1 order_35).1, (v__law_percent ((v__law_percent s33.1 s22.1 order_35).2) s22.1 order_35).1], (v__law_percent ((v__law_percent s33.1 s22.1 order_35).2) s22.1 order_35).2) fun s36 => lt (srt leI (s36.1.map fun y39 => y39)) fun percents_40 => lt (v__law_beginning s22.1 order_35 (gt percents_40 (0 : Int))) fun top_41 => lt (v__law_beginning s22.1 order_35 (gt percents_40 (1 : Int))) fun both_42 => lt (rep ([("c" : Str)]) s7.2) fun marks_44 => lt (List.foldl (fun (s45 : (List Str)) (y46 : Int) => lt (stx s45 y46 ("b" : Str)) fun marks_47 => marks_47) marks_44 (cut order_35 none (some both_42))) fun s49 => lt (List.foldl (fun (s50 : (List Str)) (y51 : Int) => lt (stx s50 y51 ("a" : Str)) fun marks_52 => marks_52) s49 (cut order_35 none (some top_41))) fun s54 => cond (!(v__law_classes_hold s33.2 (gt percents_40 (0 : Int)) (gt percents_40 (1 : Int)) names_21 s54)) (false) (lt (mapA (fun (s56 : (List Int)) (y55 : Int) => ((v__law_period s56).1, (v__law_period s56).2)) s36.2 (rng 0 (3 : Int))) fun periods_58 => lt (v__law_rests names_21 s54 periods_58.1) fun rests_v_60 => lt ((v__law_days periods_58.2 s7.2).1, (v__law_days periods_58.2 s7.2).2) fun s61 => lt (v__law_plan names_21 rests_v_60 s61.1) fun due_63 => lt (v_count_plan s33.2 (gt percents_40 (0 : Int)) (gt percents_40 (1 : Int)) periods_58.1 s61.1) fun told_64 => cond (!true) (false) (cond (!true) (false) (thn (forC (fun (s66 : Unit) (y67 : Int) => (cond ((decide ((gt periods_58.1 y67) < (21 : Int))) && (!(v__law_shares_hold (cnt s54 (sgt ("abc" : Str) y67)) (gt periods_58.1 y67)))) (.rt false) (.nx ()) : Ctl (Unit) (Bool))) () (rng 0 (3 : Int))) (fun r => r) (fun s71 => lt ((v__law_draw s61.2 s7.2).1, (v__law_draw s61.2 s7.2).2) fun s72 => lt ((!(v__law_next_holds s33.2 percents_40 periods_58.1 names_21 rests_v_60 s72.1 ((v__law_draw s72.2 (100 : Int)).1))), (v__law_draw s72.2 (100 : Int)).2) fun s74 => cond s74.1 (false) (cond (decide ((6 : Int) < s7.2)) (true) (lt (((1 : Int) + (v__law_draw s74.2 (9 : Int)).1), (v__law_draw s74.2 (9 : Int)).2) fun s76 => lt ((v__law_draw s76.2 s76.1).1, (v__law_draw s76.2 s76.1).2) fun s78 => cond (!(v__law_wholes_hold names_21 s22.1 order_35 top_41 s76.1 s78.1)) (false) ((v__law_wholes_hold names_21 s22.1 order_35 both_42 s76.1 s78.1))))))))
def o_law (script_ : (List Int)) : Prop :=
  (o__law_pool script_ (200 : Int)) ∧ lt (v__law_pool script_ (200 : Int)) fun pool_2 => (o__law_draw pool_2 (6 : Int)) ∧ lt (((1 : Int) + (v__law_draw pool_2 (6 : Int)).1), (v__law_draw pool_2 (6 : Int)).2) fun s3 => (o__law_draw s3.2 (4 : Int)) ∧ (lt ((decide ((v__law_draw s3.2 (4 : Int)).1 = (0 : Int))), (v__law_draw s3.2 (4 : Int)).2) fun s5 => okI s5.1 (lt (s3.1 + (6 : Int)) fun many_8 => True) (True)) ∧ lt (lt ((decide ((v__law_draw s3.2 (4 : Int)).1 = (0 : Int))), (v__law_draw s3.2 (4 : Int)).2) fun s5 => cond s5.1 (lt (s3.1 + (6 : Int)) fun many_8 => (s5.2, many_8)) ((s5.2, s3.1))) fun s7 => lt ([] : List Str) fun words_10 => (okr 0 s7.2) ∧ okL (fun (s11 : (List Int) × (List Str)) (y12 : Int) => lt (s11.2 ++ [(v__law_word s11.1 s11.2).1], (v__law_word s11.1 s11.2).2) fun s13 => (s13.2, s13.1)) (fun (s11 : (List Int) × (List Str)) (y12 : Int) => (oks s11.2) ∧ (o__law_word s11.1 s11.2) ∧ lt (s11.2 ++ [(v__law_word s11.1 s11.2).1], (v__law_word s11.1 s11.2).2) fun s13 => True) (s7.1, words_10) (rng 0 s7.2) ∧ lt (List.foldl (fun (s11 : (List Int) × (List Str)) (y12 : Int) => lt (s11.2 ++ [(v__law_word s11.1 s11.2).1], (v__law_word s11.1 s11.2).2) fun s13 => (s13.2, s13.1)) (s7.1, words_10) (rng 0 s7.2)) fun s17 => (oks s17.2) ∧ (okall (fun y19 : Str => True) s17.2) ∧ (oks s17.2) ∧ (okall (fun y20 : Str => True) s17.2) ∧ ((s17.2.map fun y20 => y20).length < 64) ∧ lt (srt leS (s17.2.map fun y20 => y20)) fun names_21 => (o__law_values s17.1 s7.2) ∧ lt ((v__law_values s17.1 s7.2).1, (v__law_values s17.1 s7.2).2) fun s22 => (okr 0 s7.2) ∧ (oks (rng 0 s7.2)) ∧ (okall (fun y24 : Int => (okx names_21 y24) ∧ (okx s22.1 y24)) (rng 0 s7.2)) ∧ lt ((rng 0 s7.2).map fun y24 => ((gt names_21 y24), (gt s22.1 y24))) fun items_26 => (o__law_draw s22.2 s7.2) ∧ lt ((v__law_draw s22.2 s7.2).1, (v__law_draw s22.2 s7.2).2) fun s27 => ((cut items_26 (some s27.1) none).length + (cut items_26 none (some s27.1)).length ≤ 16777216) ∧ lt ((cut items_26 (some s27.1) none) ++ (cut items_26 none (some s27.1))) fun items_30 => (o__law_draw s27.2 (2 : Int)) ∧ (lt ((decide ((v__law_draw s27.2 (2 : Int)).1 = (0 : Int))), (v__law_draw s27.2 (2 : Int)).2) fun s31 => okI s31.1 (lt items_30.reverse fun items_34 => True) (True)) ∧ lt (lt ((decide ((v__law_draw s27.2 (2 : Int)).1 = (0 : Int))), (v__law_draw s27.2 (2 : Int)).2) fun s31 => cond s31.1 (lt items_30.reverse fun items_34 => (s31.2, items_34)) ((s31.2, items_30))) fun s33 => (o__law_falling s22.1) ∧ lt (v__law_falling s22.1) fun order_35 => (o__law_percent s33.1 s22.1 order_35) ∧ (o__law_percent ((v__law_percent s33.1 s22.1 order_35).2) s22.1 order_35) ∧ lt ([(v__law_percent s33.1 s22.1 order_35).1, (v__law_percent ((v__law_percent s33.1 s22.1 order_35).2) s22.1 order_35).1], (v__law_percent ((v__law_percent s33.1 s22.1 order_35).2) s22.1 order_35).2) fun s36 => (oks s36.1) ∧ (okall (fun y38 : Int => True) s36.1) ∧ (oks s36.1) ∧ (okall (fun y39 : Int => True) s36.1) ∧ lt (srt leI (s36.1.map fun y39 => y39)) fun percents_40 => (okx percents_40 (0 : Int)) ∧ (o__law_beginning s22.1 order_35 (gt percents_40 (0 : Int))) ∧ lt (v__law_beginning s22.1 order_35 (gt percents_40 (0 : Int))) fun top_41 => (okx percents_40 (1 : Int)) ∧ (o__law_beginning s22.1 order_35 (gt percents_40 (1 : Int))) ∧ lt (v__law_beginning s22.1 order_35 (gt percents_40 (1 : Int))) fun both_42 => (okrep ([("c" : Str)]) s7.2) ∧ lt (rep ([("c" : Str)]) s7.2) fun marks_44 => okL (fun (s45 : (List Str)) (y46 : Int) => lt (stx s45 y46 ("b" : Str)) fun marks_47 => marks_47) (fun (s45 : (List Str)) (y46 : Int) => (okx s45 y46) ∧ lt (stx s45 y46 ("b" : Str)) fun marks_47 => True) marks_44 (cut order_35 none (some both_42)) ∧ lt (List.foldl (fun (s45 : (List Str)) (y46 : Int) => lt (stx s45 y46 ("b" : Str)) fun marks_47 => marks_47) marks_44 (cut order_35 none (some both_42))) fun s49 => okL (fun (s50 : (List Str)) (y51 : Int) => lt (stx s50 y51 ("a" : Str)) fun marks_52 => marks_52) (fun (s50 : (List Str)) (y51 : Int) => (okx s50 y51) ∧ lt (stx s50 y51 ("a" : Str)) fun marks_52 => True) s49 (cut order_35 none (some top_41)) ∧ lt (List.foldl (fun (s50 : (List Str)) (y51 : Int) => lt (stx s50 y51 ("a" : Str)) fun marks_52 => marks_52) s49 (cut order_35 none (some top_41))) fun s54 => (okx percents_40 (0 : Int)) ∧ (okx percents_40 (1 : Int)) ∧ (o__law_classes_hold s33.2 (gt percents_40 (0 : Int)) (gt percents_40 (1 : Int)) names_21 s54) ∧ okI (!(v__law_classes_hold s33.2 (gt percents_40 (0 : Int)) (gt percents_40 (1 : Int)) names_21 s54)) (True) ((okr 0 (3 : Int)) ∧ (oks (rng 0 (3 : Int))) ∧ (okA (fun (s56 : (List Int)) (y55 : Int) => ((v__law_period s56).1, (v__law_period s56).2)) (fun (s56 : (List Int)) (y55 : Int) => (o__law_period s56)) s36.2 (rng 0 (3 : Int))) ∧ lt (mapA (fun (s56 : (List Int)) (y55 : Int) => ((v__law_period s56).1, (v__law_period s56).2)) s36.2 (rng 0 (3 : Int))) fun periods_58 => (o__law_rests names_21 s54 periods_58.1) ∧ lt (v__law_rests names_21 s54 periods_58.1) fun rests_v_60 => (o__law_days periods_58.2 s7.2) ∧ lt ((v__law_days periods_58.2 s7.2).1, (v__law_days periods_58.2 s7.2).2) fun s61 => (o__law_plan names_21 rests_v_60 s61.1) ∧ lt (v__law_plan names_21 rests_v_60 s61.1) fun due_63 => (okx percents_40 (0 : Int)) ∧ (okx percents_40 (1 : Int)) ∧ (o_count_plan s33.2 (gt percents_40 (0 : Int)) (gt percents_40 (1 : Int)) periods_58.1 s61.1) ∧ lt (v_count_plan s33.2 (gt percents_40 (0 : Int)) (gt percents_40 (1 : Int)) periods_58.1 s61.1) fun told_64 => (told_64 = due_63) ∧ okI (!true) (True) ((o_loads due_63) ∧ (oks due_63) ∧ (okall (fun y65 : (List Str) => True) due_63) ∧ ((v_loads due_63) = (due_63.map fun y65 => (y65.length : Int))) ∧ okI (!true) (True) ((okr 0 (3 : Int)) ∧ okC (fun (s66 : Unit) (y67 : Int) => (cond ((decide ((gt periods_58.1 y67) < (21 : Int))) && (!(v__law_shares_hold (cnt s54 (sgt ("abc" : Str) y67)) (gt periods_58.1 y67)))) (.rt false) (.nx ()) : Ctl (Unit) (Bool))) (fun (s66 : Unit) (y67 : Int) => (okx periods_58.1 y67) ∧ ((decide ((gt periods_58.1 y67) < (21 : Int))) = true → (0 ≤ y67 ∧ y67 < ("abc" : Str).length ∧ y67 < 2 ^ 63) ∧ (okx periods_58.1 y67) ∧ (o__law_shares_hold (cnt s54 (sgt ("abc" : Str) y67)) (gt periods_58.1 y67))) ∧ okI ((decide ((gt periods_58.1 y67) < (21 : Int))) && (!(v__law_shares_hold (cnt s54 (sgt ("abc" : Str) y67)) (gt periods_58.1 y67)))) (True) (True)) (fun s71 : Unit => (o__law_draw s61.2 s7.2) ∧ lt ((v__law_draw s61.2 s7.2).1, (v__law_draw s61.2 s7.2).2) fun s72 => (o__law_draw s72.2 (100 : Int)) ∧ (o__law_next_holds s33.2 percents_40 periods_58.1 names_21 rests_v_60 s72.1 ((v__law_draw s72.2 (100 : Int)).1)) ∧ lt ((!(v__law_next_holds s33.2 percents_40 periods_58.1 names_21 rests_v_60 s72.1 ((v__law_draw s72.2 (100 : Int)).1))), (v__law_draw s72.2 (100 : Int)).2) fun s74 => okI s74.1 (True) (okI (decide ((6 : Int) < s7.2)) (True) ((o__law_draw s74.2 (9 : Int)) ∧ lt (((1 : Int) + (v__law_draw s74.2 (9 : Int)).1), (v__law_draw s74.2 (9 : Int)).2) fun s76 => (o__law_draw s76.2 s76.1) ∧ lt ((v__law_draw s76.2 s76.1).1, (v__law_draw s76.2 s76.1).2) fun s78 => (o__law_wholes_hold names_21 s22.1 order_35 top_41 s76.1 s78.1) ∧ okI (!(v__law_wholes_hold names_21 s22.1 order_35 top_41 s76.1 s78.1)) (True) ((o__law_wholes_hold names_21 s22.1 order_35 both_42 s76.1 s78.1) ∧ True)))) () (rng 0 (3 : Int)))))
end K24

set_option maxHeartbeats 2000000
/-! K24A: loops and draws, in plain terms. -/
namespace K24
open PySem ZZ L2
/-! ### loops -/
theorem okL_inv {σ β : Type} {f : σ → β → σ} {ok : σ → β → Prop} (Inv : σ → Prop) : ∀ {ys : List β} {s : σ}, Inv s → (∀ s y, y ∈ ys → Inv s → ok s y ∧ Inv (f s y)) → okL f ok s ys ∧ Inv (List.foldl f s ys)
  | [], _, h, _ => ⟨trivial, h⟩
  | y :: ys, s, h, k => by
    obtain ⟨h1, h2⟩ := k s y List.mem_cons_self h
    obtain ⟨h3, h4⟩ := okL_inv Inv h2 fun s y hy => k s y (List.mem_cons_of_mem _ hy)
    exact ⟨⟨h1, h3⟩, h4⟩
/-- the invariant told by what has been walked -/
theorem okL_pre {σ β : Type} {f : σ → β → σ} {ok : σ → β → Prop} (Inv : List β → σ → Prop) {ys : List β} {s : σ} (h : Inv [] s) (k : ∀ pre y post s, ys = pre ++ y :: post → Inv pre s → ok s y ∧ Inv (pre ++ [y]) (f s y)) : okL f ok s ys ∧ Inv ys (List.foldl f s ys) := by
  have go : ∀ (zs pre : List β) (s : σ), ys = pre ++ zs → Inv pre s → okL f ok s zs ∧ Inv ys (List.foldl f s zs) := fun zs => by
    induction zs with
    | nil => intro pre s e h; rw [List.append_nil] at e; exact ⟨trivial, e ▸ h⟩
    | cons z zs ih =>
      intro pre s e h
      obtain ⟨h1, h2⟩ := k pre z zs s e h
      obtain ⟨h3, h4⟩ := ih (pre ++ [z]) (f s z) (by rw [e, List.append_assoc]; rfl) h2
      exact ⟨⟨h1, h3⟩, h4⟩
  exact go ys [] s rfl h
theorem okL_go {σ β : Type} {f : σ → β → σ} {ok : σ → β → Prop} {okk : σ → Prop} (Inv : List β → σ → Prop) {ys : List β} {s : σ} (h : Inv [] s) (k : ∀ pre y post s, ys = pre ++ y :: post → Inv pre s → ok s y ∧ Inv (pre ++ [y]) (f s y)) (fin : ∀ s, Inv ys s → okk s) : okL f ok s ys ∧ lt (List.foldl f s ys) okk :=
  let h := okL_pre Inv h k; ⟨h.1, fin _ h.2⟩
theorem mem_rng {i j k : Int} : k ∈ rng i j ↔ i ≤ k ∧ k < j := by
  unfold rng
  rw [List.mem_map]
  constructor
  · rintro ⟨a, ha, rfl⟩
    rw [List.mem_range] at ha
    omega
  · intro h
    exact ⟨(k - i).toNat, by rw [List.mem_range]; omega, by omega⟩
theorem lt_def {α β : Type} (v : α) (k : α → β) : lt v k = k v := rfl
/-! ### word and value at once -/
theorem both {α β : Type} {v : α} {okk : α → Prop} {kk : α → β} {P : β → Prop} (Q : α → Prop) (hv : Q v) (h : ∀ x, Q x → okk x ∧ P (kk x)) : lt v okk ∧ P (lt v kk) := h v hv
theorem band {q o p : Prop} (hq : q) (h : o ∧ p) : (q ∧ o) ∧ p := ⟨⟨hq, h.1⟩, h.2⟩
theorem bloop {σ β γ : Type} {f : σ → β → σ} {ok : σ → β → Prop} {okk : σ → Prop} {kk : σ → γ} {P : γ → Prop} (Inv : List β → σ → Prop) {ys : List β} {s : σ} (h : Inv [] s) (k : ∀ pre y post s, ys = pre ++ y :: post → Inv pre s → ok s y ∧ Inv (pre ++ [y]) (f s y)) (fin : ∀ s, Inv ys s → okk s ∧ P (kk s)) : (okL f ok s ys ∧ lt (List.foldl f s ys) okk) ∧ P (lt (List.foldl f s ys) kk) :=
  let h := okL_pre Inv h k; ⟨⟨h.1, (fin _ h.2).1⟩, (fin _ h.2).2⟩
theorem bloopC {σ β γ : Type} {f : σ → β → σ} {ok : σ → β → Prop} {okk : σ → Prop} {kk : σ → γ} {P : γ → Prop} (Inv : List β → σ → Prop) {ys : List β} {s : σ} (h : Inv [] s) (k : ∀ pre y post s, ys = pre ++ y :: post → Inv pre s → ∀ P : σ → Prop, (∀ z, Inv (pre ++ [y]) z → P z) → ok s y ∧ P (f s y)) (fin : ∀ s, Inv ys s → okk s ∧ P (kk s)) : (okL f ok s ys ∧ lt (List.foldl f s ys) okk) ∧ P (lt (List.foldl f s ys) kk) :=
  bloop Inv h (fun pre y post s e hi => k pre y post s e hi _ fun _ z => z) fin
theorem bend {o : Prop} {β : Type} {P : β → Prop} {z : β} (ho : o) (h : P z) : o ∧ P z := ⟨ho, h⟩
/-! ### draws -/
theorem dr_ok {p : List Int} {m : Int} (h : 0 < m) : o__law_draw p m := by
  refine ⟨fun _ => trivial, fun h1 => ⟨fun e => ?_, h, trivial⟩⟩
  subst e
  exact absurd h1 (by decide)
theorem dr_in {p : List Int} {m : Int} (h : 0 < m) : 0 ≤ (v__law_draw p m).1 ∧ (v__law_draw p m).1 < m := by
  unfold v__law_draw
  cases decide ((p.length : Int) = (0 : Int)) with
  | true => exact ⟨Int.le_refl _, h⟩
  | false => exact ⟨Int.emod_nonneg _ (by omega), Int.emod_lt_of_pos _ h⟩
theorem okr_lit {i j : Int} (h1 : -1000000 ≤ i) (h2 : i < 1000000) (h3 : -1000000 ≤ j) (h4 : j < 1000000) : okr i j := ⟨by omega, by omega, by omega, by omega⟩
theorem okx_of {α : Type} {xs : List α} {k : Int} (h0 : 0 ≤ k) (h : k < xs.length) : okx xs k := ⟨by omega, h⟩
theorem cmulL {i j : Int} (h0 : -1000000000000 < i) (h1 : i < 1000000000000) : CMul i j := .inl ⟨by omega, by omega⟩
theorem cmulR {i j : Int} (h0 : -1000000000000 < j) (h1 : j < 1000000000000) : CMul i j := .inr ⟨by omega, by omega⟩
theorem emod_in {i m : Int} (h : 0 < m) : 0 ≤ i % m ∧ i % m < m := ⟨Int.emod_nonneg _ (by omega), Int.emod_lt_of_pos _ h⟩
theorem stx_len {α : Type} {xs : List α} {k : Int} {v : α} : (stx xs k v).length = xs.length := List.length_set
/-! ### the pool -/
theorem pool_ok {script : List Int} (hl : script.length ≤ 63) : o__law_pool script 200 := by
  have hc : (cut script none (some 63)).length ≤ 63 := by
    have : (cut script none (some 63)).length ≤ script.length := by
      unfold cut
      simp
      omega
    omega
  refine ⟨by show _ < 16777216; omega, fun _ _ => trivial, ?_⟩
  rw [lt_def]
  refine ⟨⟨fun _ => trivial, fun _ => trivial⟩, ?_⟩
  rw [lt_def]
  generalize hL : cond (decide ((((cut script none (some (63 : Int))).map fun y1 => y1).length : Int) = (0 : Int))) (lt ([(0 : Int)]) fun left_6 => left_6) ((cut script none (some (63 : Int))).map fun y1 => y1) = left
  have hlen : 0 < left.length := by
    subst hL
    cases h : decide ((((cut script none (some (63 : Int))).map fun y1 => y1).length : Int) = (0 : Int)) with
    | true => exact Nat.one_pos
    | false => have := of_decide_eq_false h; show 0 < ((cut script none (some (63 : Int))).map fun y1 => y1).length; omega
  rw [lt_def, lt_def]
  refine ⟨okr_lit (by omega) (by omega) (by omega) (by omega), ?_⟩
  refine okL_go (fun pre s => s.1.length = left.length ∧ s.2.1.length = pre.length ∧ 0 ≤ s.2.2 ∧ s.2.2 < 1000003) ⟨rfl, rfl, by show (0 : Int) ≤ 7; decide, by show (7 : Int) < 1000003; decide⟩ ?_ fun _ _ => trivial
  · rintro pre k post ⟨lf, pool, jar⟩ e ⟨h1, h2, h3, h4⟩
    have hk : 0 ≤ k ∧ k < 200 := mem_rng.mp (e ▸ List.mem_append_right _ List.mem_cons_self)
    have hpl : pre.length < 200 := by
      have := congrArg List.length e
      rw [len_rng, List.length_append, List.length_cons] at this
      omega
    dsimp only at h1 h2 h3 h4
    have ha := emod_in (i := k) (m := (lf.length : Int)) (by omega)
    refine ⟨⟨by dsimp only; omega, ?_⟩, ?_⟩
    · rw [lt_def]
      refine ⟨okx_of ha.1 ha.2, ?_⟩
      rw [lt_def]
      refine ⟨⟨fun _ => ⟨by show pool.length < 16777216; omega, by decide, ⟨⟨by decide, by decide⟩, okx_of ha.1 ha.2, trivial⟩⟩, fun _ => ?_⟩, trivial⟩
      have hj := emod_in (i := jar * jar + gt lf (k % lf.length) % 1000003 * 40014 + k * 7919 + 11) (m := 1000003) (by decide)
      refine ⟨cmulL (by dsimp only; omega) (by dsimp only; omega), by decide, cmulR (by decide) (by decide), cmulL (by omega) (by omega), by decide, ?_⟩
      exact ⟨by show pool.length < 16777216; omega, cmulR (by decide) (by decide), ⟨by decide, by decide⟩, by decide, trivial⟩
    · dsimp only [lt_def, lt]
      cases decide ((1000000000000000000 : Int) ≤ gt lf (k % (lf.length : Int))) with
      | true => exact ⟨by show (stx lf _ _).length = _; rw [stx_len]; exact h1, by show (pool ++ _).length = _; simp [h2], h3, h4⟩
      | false =>
        have hj := emod_in (i := jar * jar + gt lf (k % lf.length) % 1000003 * 40014 + k * 7919 + 11) (m := 1000003) (by decide)
        exact ⟨h1, by show (pool ++ _).length = _; simp [h2], hj.1, hj.2⟩
end K24

set_option maxHeartbeats 2000000
/-! K24B: the words. -/
namespace K24
open PySem ZZ L2
theorem nodup_le {α : Type} [DecidableEq α] : ∀ {l m : List α}, l.Nodup → (∀ x ∈ l, x ∈ m) → l.length ≤ m.length
  | [], _, _, _ => Nat.zero_le _
  | a :: l, m, h, k => by
    obtain ⟨h1, h2⟩ := List.nodup_cons.mp h
    have hm := k a List.mem_cons_self
    have := nodup_le (m := m.erase a) h2 fun x hx => (List.mem_erase_of_ne (fun e : x = a => h1 (by rw [← e]; exact hx))).mpr (k x (List.mem_cons_of_mem _ hx))
    rw [List.length_erase_of_mem hm] at this
    have : 0 < m.length := List.length_pos_of_mem hm
    rw [List.length_cons]; omega
/-- a word of letters a to y, not empty, short -/
def Wd (s : Str) : Prop := (∀ c ∈ s.cps.toList, 97 ≤ c ∧ c ≤ 121) ∧ 0 < s.length ∧ s.length ≤ 20
def abc : Str := "abcdefghijklmnopqrstuvwxy"
theorem abc_len : abc.length = 25 := by decide +kernel
theorem abc_at : ∀ k : Nat, k < 25 → abc.cps.getD k 0 = 97 + k := by decide +kernel
theorem sgt_abc {k : Int} (h0 : 0 ≤ k) (h1 : k < 25) : (sgt abc k).cps.toList = [97 + k.toNat] := by
  show [abc.cps.getD k.toNat 0] = _
  rw [abc_at k.toNat (by omega)]
theorem app_list (s t : Str) : (s ++ t).cps.toList = s.cps.toList ++ t.cps.toList := by
  show (s.cps ++ t.cps).toList = _
  simp
theorem len_list (s : Str) : s.length = s.cps.toList.length := by show s.cps.size = _; simp
theorem sgt_len {s : Str} {k : Int} : (sgt s k).length = 1 := rfl
theorem app_len (s t : Str) : (s ++ t).length = s.length + t.length := by rw [len_list, len_list, len_list, app_list, List.length_append]
theorem cutS_list {s : Str} {i j : Option Int} : (cutS s i j).cps.toList = List.take (HT.sIx s.length s.length j - HT.sIx s.length 0 i) (List.drop (HT.sIx s.length 0 i) s.cps.toList) := by
  show (List.toArray _).toList = _
  simp
theorem cutS_sub {s : Str} {i j : Option Int} : ∀ c ∈ (cutS s i j).cps.toList, c ∈ s.cps.toList := fun c hc => by
  rw [cutS_list] at hc
  exact List.mem_of_mem_drop (List.mem_of_mem_take hc)
theorem cutS_len {s : Str} {i j : Option Int} : (cutS s i j).length ≤ s.length := by
  rw [len_list, len_list, cutS_list, List.length_take, List.length_drop]; omega
theorem wd_app {s : Str} {k : Int} (h : ∀ c ∈ s.cps.toList, 97 ≤ c ∧ c ≤ 121) (h0 : 0 ≤ k) (h1 : k < 25) : ∀ c ∈ (s ++ sgt abc k).cps.toList, 97 ≤ c ∧ c ≤ 121 := fun c hc => by
  rw [app_list, sgt_abc h0 h1] at hc
  rcases List.mem_append.mp hc with hc | hc
  · exact h c hc
  · have := List.mem_singleton.mp hc; omega
theorem wd_cons {s : Str} {k : Int} (h : ∀ c ∈ s.cps.toList, 97 ≤ c ∧ c ≤ 121) (h0 : 0 ≤ k) (h1 : k < 25) : ∀ c ∈ (sgt abc k ++ s).cps.toList, 97 ≤ c ∧ c ≤ 121 := fun c hc => by
  rw [app_list, sgt_abc h0 h1] at hc
  rcases List.mem_append.mp hc with hc | hc
  · have := List.mem_singleton.mp hc; omega
  · exact h c hc
theorem word_ok {pool : List Int} {words : List Str} (hw : words.length ≤ 24) : ∀ P : Str × List Int → Prop, (∀ z, Wd z.1 ∧ z.1 ∉ words → P z) → o__law_word pool words ∧ P (v__law_word pool words) := by
  intro P hP
  unfold o__law_word v__law_word
  refine both (· = abc) rfl ?_
  rintro _ rfl
  refine band (dr_ok (by decide)) (both (fun _ => True) trivial fun s2 _ => ?_)
  refine band (dr_ok (by decide)) (both (fun _ => True) trivial fun s4 _ => ?_)
  refine band (dr_ok (by decide)) (both (fun s => 1 ≤ s.1 ∧ s.1 ≤ 8) ?_ fun s6 h6 => ?_)
  · have := dr_in (p := s4.2) (m := 8) (by decide)
    dsimp only; omega
  refine band (dr_ok (by decide)) (band ?_ (both (fun s => 1 ≤ s.2 ∧ s.2 ≤ 8) ?_ fun s10 h10 => ?_))
  · exact ⟨fun _ => ⟨by decide, trivial⟩, fun _ => trivial⟩
  · rw [lt_def]
    dsimp only
    have := emod_in (i := s6.1) (m := 2) (by decide)
    cases decide ((v__law_draw s6.2 2).1 = 0) with
    | true => show 1 ≤ 1 + s6.1 % 2 ∧ 1 + s6.1 % 2 ≤ 8; omega
    | false => exact h6
  refine both (· = ("" : Str)) rfl ?_
  rintro _ rfl
  refine band (okr_lit (by omega) (by omega) (by omega) (by omega)) ?_
  refine bloop (fun pre s => (∀ c ∈ s.2.2.cps.toList, 97 ≤ c ∧ c ≤ 121) ∧ s.2.2.length = pre.length) ⟨fun c hc => by rw [show (Str.ofString "").cps.toList = [] by decide +kernel] at hc; exact absurd hc List.not_mem_nil, rfl⟩ ?_ fun s30 h30 => ?_
  · rintro pre k post ⟨one, other, word⟩ e ⟨h1, h2⟩
    have hpl : pre.length < 8 := by
      have := congrArg List.length e
      rw [len_rng, List.length_append, List.length_cons] at this
      omega
    dsimp only at h1 h2
    have m1 := emod_in (i := one) (m := 25) (by decide)
    have m2 := emod_in (i := other) (m := 25) (by decide)
    have al := abc_len
    refine ⟨⟨by decide, ⟨fun _ => ⟨by decide, ⟨m1.1, by rw [al]; exact m1.2, by dsimp only; omega⟩, by rw [sgt_len]; dsimp only; omega, by rw [lt_def]; exact ⟨⟨by decide, by decide⟩, trivial⟩⟩, fun _ => ⟨by decide, ⟨m2.1, by rw [al]; exact m2.2, by dsimp only; omega⟩, by rw [sgt_len]; dsimp only; omega, by rw [lt_def]; exact ⟨⟨by decide, by decide⟩, trivial⟩⟩⟩, trivial⟩, ?_⟩
    rw [lt_def]
    cases decide (k % 2 = 0) with
    | true => exact ⟨wd_app h1 m1.1 m1.2, by show (word ++ sgt abc (one % 25)).length = _; rw [app_len, sgt_len, h2]; simp⟩
    | false => exact ⟨wd_app h1 m2.1 m2.2, by show (word ++ sgt abc (other % 25)).length = _; rw [app_len, sgt_len, h2]; simp⟩
  obtain ⟨h1, h2⟩ := h30
  rw [len_rng] at h2
  have hl : 1 ≤ s30.2.2.length ∧ s30.2.2.length ≤ 8 := by omega
  refine band (by omega) (both (fun b => (∀ c ∈ b.cps.toList, 97 ≤ c ∧ c ≤ 121) ∧ b.length ≤ 8) ⟨fun c hc => h1 c (cutS_sub c hc), Nat.le_trans cutS_len hl.2⟩ fun base hb => ?_)
  refine band (okr_lit (by decide) (by decide) (by decide) (by decide)) ?_
  refine bloop (fun pre s => Wd s ∧ (s ∈ words → ∀ y ∈ pre, sgt abc y ++ base ∈ words)) ⟨⟨h1, by omega, by omega⟩, fun _ y hy => absurd hy List.not_mem_nil⟩ ?_ fun s38 h38 => ?_
  · rintro pre k post s e ⟨w1, w2⟩
    have hk : 0 ≤ k ∧ k < 25 := mem_rng.mp (e ▸ List.mem_append_right _ List.mem_cons_self)
    have al := abc_len
    have al2 : (sgt abc k ++ base).length = 1 + base.length := by rw [app_len, sgt_len]
    refine ⟨⟨⟨fun _ => ⟨⟨hk.1, by rw [al]; exact hk.2, by omega⟩, by rw [sgt_len]; omega, trivial⟩, fun _ => trivial⟩, trivial⟩, ?_⟩
    rw [lt_def]
    by_cases q : s ∈ words
    · rw [decide_eq_true q]
      refine ⟨⟨wd_cons hb.1 hk.1 hk.2, by show 0 < (sgt abc k ++ base).length; omega, by show (sgt abc k ++ base).length ≤ 20; omega⟩, fun hm y hy => ?_⟩
      rcases List.mem_append.mp hy with hy | hy
      · exact w2 q y hy
      · rw [List.mem_singleton.mp hy]; exact hm
    · rw [decide_eq_false q]
      exact ⟨w1, fun hm => absurd hm q⟩
  refine ⟨trivial, hP _ ⟨h38.1, fun hm => ?_⟩⟩
  have := nodup_le (l := (rng 0 25).map fun y => sgt abc y ++ base) (m := words) ?_ fun x hx => ?_
  · rw [List.length_map, len_rng] at this
    omega
  · unfold rng
    rw [List.map_map]
    refine List.pairwise_map.mpr (List.pairwise_lt_range.imp_of_mem fun {a b} ha hb h e => ?_)
    rw [List.mem_range] at ha hb
    have e2 := congrArg (fun s : Str => s.cps.toList) e
    dsimp only [Function.comp] at e2
    rw [app_list, app_list, sgt_abc (by omega) (by omega), sgt_abc (by omega) (by omega)] at e2
    injection e2 with e3 _
    omega
  · obtain ⟨y, hy, rfl⟩ := List.mem_map.mp hx
    exact h38.2 hm y hy
end K24

set_option maxHeartbeats 2000000
/-! K24C: the values, the falling order. -/
namespace K24
open PySem ZZ L2
/-- 0 .. 100000 each -/
def Vs (n : Int) (vs : List Int) : Prop := (vs.length : Int) = n ∧ (∀ v ∈ vs, 0 ≤ v ∧ v ≤ 100000) ∧ 0 < vs.sum
theorem sum_nn : ∀ {l : List Int}, (∀ v ∈ l, 0 ≤ v) → 0 ≤ l.sum ∧ ∀ x ∈ l, x ≤ l.sum
  | [], _ => ⟨Int.le_refl _, fun _ h => absurd h List.not_mem_nil⟩
  | a :: l, h => by
    obtain ⟨h1, h2⟩ := sum_nn fun v hv => h v (List.mem_cons_of_mem _ hv)
    have h3 := h a List.mem_cons_self
    rw [List.sum_cons]
    refine ⟨by omega, fun x hx => ?_⟩
    rcases List.mem_cons.mp hx with rfl | hx
    · omega
    · have := h2 x hx; omega
theorem sum_le : ∀ {l : List Int} {m : Int}, (∀ v ∈ l, v ≤ m) → l.sum ≤ m * l.length
  | [], m, _ => by simp
  | a :: l, m, h => by
    have h1 := sum_le fun v hv => h v (List.mem_cons_of_mem _ hv)
    have h3 := h a List.mem_cons_self
    rw [List.sum_cons, List.length_cons]
    have e : m * ((l.length + 1 : Nat) : Int) = m * l.length + m := by
      rw [Int.natCast_add, Int.mul_add]; simp
    omega
theorem values_ok {pool : List Int} {n : Int} (h1 : 1 ≤ n) (h2 : n ≤ 12) : ∀ P : List Int × List Int → Prop, (∀ z, Vs n z.1 → P z) → o__law_values pool n ∧ P (v__law_values pool n) := by
  intro P hP
  unfold o__law_values v__law_values
  refine both (· = ([] : List Int)) rfl ?_
  rintro _ rfl
  refine band (okr_lit (by omega) (by omega) (by omega) (by omega)) ?_
  refine bloopC (fun pre (s : List Int × List Int) => s.2.length = pre.length ∧ ∀ v ∈ s.2, 0 ≤ v ∧ v ≤ 100000) ⟨rfl, fun _ h => absurd h List.not_mem_nil⟩ ?_ fun s20 h20 => ?_
  · rintro pre k post ⟨pl, vs⟩ e ⟨q1, q2⟩ P hP
    have hpl : pre.length < 12 := by
      have := congrArg List.length e
      rw [len_rng, List.length_append, List.length_cons] at this
      omega
    dsimp only at q1 q2
    refine band (dr_ok (by decide)) (band (cmulR (by decide) (by decide)) (both (fun s => 0 ≤ s.1 ∧ s.1 ≤ 100000) ?_ fun s5 h5 => ?_))
    · have := dr_in (p := pl) (m := 4) (by decide)
      dsimp only; omega
    refine band (dr_ok (by decide)) (both (fun s => 0 ≤ s.1 ∧ s.1 ≤ 100000) ?_ fun s7 h7 => ?_)
    · have := dr_in (p := s5.2) (m := 12) (by decide)
      dsimp only; omega
    refine band (dr_ok (by decide)) (both (fun s => 0 ≤ s.1 ∧ s.1 ≤ 100000) ?_ fun s9 h9 => ?_)
    · have := dr_in (p := s7.2) (m := 100000) (by decide)
      dsimp only; omega
    have d3 := dr_in (p := s9.2) (m := 3) (by decide)
    refine band (by show vs.length < 16777216; omega) (band (dr_ok (by decide)) (band (okx_of d3.1 d3.2) (both (fun s => s.1 = vs ++ [gt [s5.1, s7.1, s9.1] (v__law_draw s9.2 3).1]) rfl fun s11 h11 => ⟨trivial, hP _ ?_⟩)))
    show s11.1.length = _ ∧ ∀ v ∈ s11.1, _
    rw [h11]
    refine ⟨by simp [q1], fun v hv => ?_⟩
    rcases List.mem_append.mp hv with hv | hv
    · exact q2 v hv
    · rw [List.mem_singleton.mp hv]
      generalize (v__law_draw s9.2 3).1 = j at d3
      have : j = 0 ∨ j = 1 ∨ j = 2 := by omega
      rcases this with rfl | rfl | rfl
      · exact h5
      · exact h7
      · exact h9
  obtain ⟨q1, q2⟩ := h20
  rw [len_rng] at q1
  refine band ⟨fun _ => ⟨okx_of (by decide) (by omega), trivial⟩, fun _ => trivial⟩ (both (fun s => Vs n s) ?_ fun s21 h21 => ⟨trivial, hP _ h21⟩)
  by_cases q : s20.2.sum = 0
  · rw [decide_eq_true q]
    obtain ⟨a, l, hal⟩ : ∃ a l, s20.2 = a :: l := by
      cases h : s20.2 with
      | nil => rw [h] at q1; simp at q1; omega
      | cons a l => exact ⟨a, l, rfl⟩
    have e : stx s20.2 0 1 = 1 :: l := by rw [hal]; rfl
    show Vs n (stx s20.2 0 1)
    rw [e]
    rw [hal] at q1 q2
    have hn := sum_nn (l := l) fun v hv => (q2 v (List.mem_cons_of_mem _ hv)).1
    refine ⟨by rw [List.length_cons] at q1 ⊢; omega, fun v hv => ?_, by rw [List.sum_cons]; omega⟩
    rcases List.mem_cons.mp hv with rfl | hv
    · omega
    · exact q2 v (List.mem_cons_of_mem _ hv)
  · rw [decide_eq_false q]
    have hn := sum_nn fun v hv => (q2 v hv).1
    show Vs n s20.2
    exact ⟨by omega, q2, by omega⟩
/-! ### the falling order -/
theorem rng_split {n : Int} {pre post : List Int} {y : Int} (e : rng 0 n = pre ++ y :: post) : (∀ x, x ∈ pre ↔ 0 ≤ x ∧ x < y) ∧ 0 ≤ y ∧ y < n ∧ (pre.length : Int) = y := by
  have hlen := congrArg List.length e
  rw [len_rng, List.length_append, List.length_cons] at hlen
  have hat : ∀ k, k < n.toNat → (rng 0 n)[k]? = some (k : Int) := fun k hk => by rw [at_rng (by omega)]; congr 1; omega
  have hy : (y : Int) = pre.length := by
    have h := hat pre.length (by omega)
    rw [e, List.getElem?_append_right (Nat.le_refl _), Nat.sub_self] at h
    exact Option.some.inj h
  refine ⟨fun x => ⟨fun hx => ?_, fun hx => ?_⟩, by omega, by omega, hy.symm⟩
  · obtain ⟨k, hk, rfl⟩ := List.mem_iff_getElem.mp hx
    have h := hat k (by omega)
    rw [e, List.getElem?_append_left hk, List.getElem?_eq_getElem hk] at h
    have := Option.some.inj h
    omega
  · have h := hat x.toNat (by omega)
    rw [e, List.getElem?_append_left (by omega)] at h
    have := List.mem_of_getElem? h
    rwa [Int.toNat_of_nonneg hx.1] at this
def beats (vs : List Int) (a b : Int) : Prop := gt vs b < gt vs a ∨ (gt vs a = gt vs b ∧ a < b)
/-- a falling order of the places -/
structure Fall (vs order : List Int) : Prop where
  len : order.length = vs.length
  nd : order.Nodup
  rg : ∀ x ∈ order, 0 ≤ x ∧ x < vs.length
  pw : order.Pairwise (beats vs)
theorem falling_ok {vs : List Int} (hl : vs.length ≤ 12) : ∀ P : List Int → Prop, (∀ z, Fall vs z → P z) → o__law_falling vs ∧ P (v__law_falling vs) := by
  intro P hP
  unfold o__law_falling v__law_falling
  refine both (· = ([] : List Int)) rfl ?_
  rintro _ rfl
  have hr : okr 0 (vs.length : Int) := okr_lit (by omega) (by omega) (by omega) (by omega)
  refine band hr ?_
  refine bloopC (fun pre (s : List Int) => s.length = pre.length ∧ s.Nodup ∧ (∀ x : Int, x ∈ s → 0 ≤ x ∧ x < vs.length) ∧ s.Pairwise (beats vs) ∧ ∀ x ∈ s, ∀ y : Int, 0 ≤ y → y < vs.length → y ∉ s → beats vs x y) ⟨rfl, List.nodup_nil, fun _ h => absurd h List.not_mem_nil, .nil, fun _ h => absurd h List.not_mem_nil⟩ ?_ fun s17 h17 => ⟨trivial, hP _ ⟨?_, h17.2.1, h17.2.2.1, h17.2.2.2.1⟩⟩
  · rintro pre k post s e ⟨q1, q2, q3, q4, q5⟩ P hP
    have hpl : (pre.length : Int) < vs.length := by have := rng_split e; omega
    refine both (· = (-1 : Int)) rfl ?_
    rintro _ rfl
    refine band hr ?_
    refine bloopC (fun pr (b : Int) => (b = -1 ∧ ∀ y ∈ pr, y ∈ s) ∨ (b ∈ pr ∧ b ∉ s ∧ ∀ y ∈ pr, y ∉ s → y = b ∨ beats vs b y)) (.inl ⟨rfl, fun _ h => absurd h List.not_mem_nil⟩) ?_ fun b hb => ?_
    · rintro pr y po b e2 hb P hP
      obtain ⟨r1, r2, r3, _⟩ := rng_split e2
      have hx : 0 ≤ b → b < vs.length := fun h => by
        rcases hb with hb | hb
        · omega
        · have := (r1 b).mp hb.1; omega
      refine ⟨⟨fun _ hb0 => ⟨okx_of r2 r3, okx_of (by have := of_decide_eq_false hb0; omega) (hx (by have := of_decide_eq_false hb0; omega))⟩, ⟨fun _ => trivial, fun _ => trivial⟩, trivial⟩, hP _ ?_⟩
      rw [lt_def]
      by_cases hy : y ∈ s
      · rw [decide_eq_true hy]
        show (b = -1 ∧ _) ∨ (b ∈ _ ∧ _)
        rcases hb with hb | hb
        · refine .inl ⟨hb.1, fun z hz => ?_⟩
          rcases List.mem_append.mp hz with hz | hz
          · exact hb.2 z hz
          · rw [List.mem_singleton.mp hz]; exact hy
        · refine .inr ⟨List.mem_append_left _ hb.1, hb.2.1, fun z hz hzs => ?_⟩
          rcases List.mem_append.mp hz with hz | hz
          · exact hb.2.2 z hz hzs
          · rw [List.mem_singleton.mp hz] at hzs; exact absurd hy hzs
      · rw [decide_eq_false hy]
        show ((cond (decide (b < 0) || decide (gt vs b < gt vs y)) y b) = -1 ∧ _) ∨ ((cond (decide (b < 0) || decide (gt vs b < gt vs y)) y b) ∈ _ ∧ (cond (decide (b < 0) || decide (gt vs b < gt vs y)) y b) ∉ s ∧ ∀ z ∈ _, _ → z = (cond (decide (b < 0) || decide (gt vs b < gt vs y)) y b) ∨ beats vs (cond (decide (b < 0) || decide (gt vs b < gt vs y)) y b) z)
        have hyin : y ∈ pr ++ [y] := List.mem_append_right _ List.mem_cons_self
        rcases hb with hb | hb
        · rw [hb.1]
          refine .inr ⟨hyin, hy, fun z hz hzs => ?_⟩
          rcases List.mem_append.mp hz with hz | hz
          · exact absurd (hb.2 z hz) hzs
          · exact .inl (List.mem_singleton.mp hz)
        · have hbb := (r1 b).mp hb.1
          rw [decide_eq_false (show ¬ b < 0 by omega), Bool.false_or]
          by_cases hv : gt vs b < gt vs y
          · rw [decide_eq_true hv]
            refine .inr ⟨hyin, hy, fun z hz hzs => ?_⟩
            rcases List.mem_append.mp hz with hz | hz
            · rcases hb.2.2 z hz hzs with rfl | h
              · exact .inr (.inl hv)
              · refine .inr (.inl ?_)
                show gt vs z < gt vs y
                rcases h with h | h <;> omega
            · exact .inl (List.mem_singleton.mp hz)
          · rw [decide_eq_false hv]
            refine .inr ⟨List.mem_append_left _ hb.1, hb.2.1, fun z hz hzs => ?_⟩
            rcases List.mem_append.mp hz with hz | hz
            · exact hb.2.2 z hz hzs
            · rw [List.mem_singleton.mp hz]
              refine .inr ?_
              show beats vs b y
              unfold beats
              omega
    · rcases hb with hb | hb
      · exfalso
        have := nodup_le (l := rng 0 (vs.length : Int)) (m := s) (by
          unfold rng
          exact List.pairwise_map.mpr (List.pairwise_lt_range.imp fun {a b} h e => by omega)) fun x hx => hb.2 x hx
        rw [len_rng] at this
        omega
      · have hbb := mem_rng.mp hb.1
        refine band (by show s.length < 16777216; omega) (both (· = s ++ [b]) rfl ?_)
        rintro _ rfl
        refine ⟨trivial, hP _ ⟨by simp [q1], ?_, fun x hx => ?_, ?_, fun x hx y h0 h1 hy => ?_⟩⟩
        · exact List.nodup_append.mpr ⟨q2, List.pairwise_singleton _ _, fun x hx y hy e => hb.2.1 (by rw [← List.mem_singleton.mp hy, ← e]; exact hx)⟩
        · rcases List.mem_append.mp hx with hx | hx
          · exact q3 x hx
          · rw [List.mem_singleton.mp hx]; exact hbb
        · exact List.pairwise_append.mpr ⟨q4, List.pairwise_singleton _ _, fun x hx y hy => by rw [List.mem_singleton.mp hy]; exact q5 x hx b hbb.1 hbb.2 hb.2.1⟩
        · have hys : y ∉ s := fun h => hy (List.mem_append_left _ h)
          rcases List.mem_append.mp hx with hx | hx
          · exact q5 x hx y h0 h1 hys
          · rw [List.mem_singleton.mp hx]
            rcases hb.2.2 y (mem_rng.mpr ⟨h0, h1⟩) hys with e | h
            · exact absurd (List.mem_append_right _ (List.mem_singleton.mpr e)) hy
            · exact h
  · have := h17.1
    rw [len_rng] at this
    omega
end K24

set_option maxHeartbeats 2000000
/-! K24D: beginnings, places, sorted values. -/
namespace K24
open PySem ZZ L2
theorem bwalk {σ β ρ γ : Type} {f : σ → β → Ctl σ ρ} {ok : σ → β → Prop} {okk : σ → Prop} {kr : ρ → γ} {kn : σ → γ} {P : γ → Prop} (Inv : List β → σ → Prop) {ys : List β} {s : σ} (h : Inv [] s) (k : ∀ pre y post s, ys = pre ++ y :: post → Inv pre s → ok s y ∧ match f s y with
    | .nx s' => Inv (pre ++ [y]) s'
    | .bk s' => okk s' ∧ P (kn s')
    | .rt r => P (kr r)) (fin : ∀ s, Inv ys s → okk s ∧ P (kn s)) : okC f ok okk s ys ∧ P (thn (forC f s ys) kr kn) := by
  have go : ∀ (zs pre : List β) (s : σ), ys = pre ++ zs → Inv pre s → okC f ok okk s zs ∧ P (thn (forC f s zs) kr kn) := fun zs => by
    induction zs with
    | nil => intro pre s e h; rw [List.append_nil] at e; exact fin s (e ▸ h)
    | cons z zs ih =>
      intro pre s e h
      obtain ⟨h1, h2⟩ := k pre z zs s e h
      unfold okC forC
      cases hf : f s z with
      | nx s' =>
        rw [hf] at h2
        have := ih (pre ++ [z]) s' (by rw [e, List.append_assoc]; rfl) h2
        exact ⟨⟨h1, this.1⟩, this.2⟩
      | bk s' => rw [hf] at h2; exact ⟨⟨h1, h2.1⟩, h2.2⟩
      | rt r => rw [hf] at h2; exact ⟨⟨h1, trivial⟩, h2⟩
  exact go ys [] s rfl h
/-- how many it takes -/
def bg (T : Int) : Int → List Int → Nat
  | _, [] => 0
  | t, v :: r => if T ≤ t * 100 then 0 else bg T (t + v) r + 1
theorem bg_stop {T t : Int} {l : List Int} (h : T ≤ t * 100) : bg T t l = 0 := by
  cases l with
  | nil => rfl
  | cons v r => unfold bg; rw [if_pos h]
theorem bg_step {T t v : Int} {r : List Int} (h : ¬ T ≤ t * 100) : bg T t (v :: r) = bg T (t + v) r + 1 := by
  rw [bg, if_neg h]
theorem bg_le {T : Int} : ∀ {l : List Int} {t : Int}, bg T t l ≤ l.length
  | [], _ => Nat.le_refl _
  | v :: r, t => by
    unfold bg
    have := bg_le (T := T) (l := r) (t := t + v)
    rw [List.length_cons]
    by_cases h : T ≤ t * 100
    · rw [if_pos h]; omega
    · rw [if_neg h]; omega
theorem bg_mono {T T' : Int} (h : T ≤ T') : ∀ {l : List Int} {t : Int}, bg T t l ≤ bg T' t l
  | [], _ => Nat.le_refl _
  | v :: r, t => by
    unfold bg
    have := bg_mono h (l := r) (t := t + v)
    by_cases h1 : T ≤ t * 100
    · rw [if_pos h1]; omega
    · rw [if_neg h1, if_neg (by omega)]; omega
theorem lbeg_ok {vs order : List Int} {pc : Int} (ho : ∀ x ∈ order, okx vs x) (h1 : 0 ≤ pc) (h2 : pc ≤ 100) : o__law_beginning vs order pc ∧ v__law_beginning vs order pc = (bg (pc * vs.sum) 0 (order.map fun k => gt vs k) : Int) := by
  unfold o__law_beginning v__law_beginning
  refine bwalk (P := fun z => z = ((bg (pc * vs.sum) 0 (order.map fun k => gt vs k) : Nat) : Int)) (fun pre (s : Int × Int) => ∀ post, order = pre ++ post → bg (pc * vs.sum) 0 (order.map fun k => gt vs k) = pre.length + bg (pc * vs.sum) s.1 (post.map fun k => gt vs k) ∧ s.2 = (pre.length : Int)) ?_ ?_ ?_
  · intro post e
    rw [List.nil_append] at e
    subst e
    exact ⟨by simp, rfl⟩
  · rintro pre y post ⟨t, m⟩ e hi
    obtain ⟨q1, q2⟩ := hi (y :: post) e
    dsimp only at q1 q2
    refine ⟨⟨cmulR (by decide) (by decide), cmulL (by omega) (by omega), ⟨fun _ => trivial, fun _ => ⟨ho y (e ▸ List.mem_append_right _ List.mem_cons_self), trivial⟩⟩⟩, ?_⟩
    rw [List.map_cons] at q1
    by_cases hT : pc * vs.sum ≤ t * 100
    · rw [decide_eq_true hT]
      refine ⟨trivial, ?_⟩
      show m = _
      rw [q2, q1, bg_stop hT]; simp
    · rw [decide_eq_false hT]
      show ∀ post', order = (pre ++ [y]) ++ post' → _
      intro post' e'
      have : post' = post := by
        rw [List.append_assoc] at e'
        have := List.append_cancel_left (e.symm.trans e')
        injection this with _ h; exact h.symm
      subst this
      rw [bg_step hT] at q1
      refine ⟨?_, by show m + 1 = _; rw [q2, List.length_append]; simp⟩
      show bg _ 0 _ = _ + bg _ (t + gt vs y) _
      rw [show (List.map (fun k => gt vs k) order) = order.map fun k => gt vs k from rfl, List.length_append, List.length_singleton]
      omega
  · rintro ⟨t, m⟩ hi
    obtain ⟨q1, q2⟩ := hi [] (by rw [List.append_nil])
    refine ⟨trivial, ?_⟩
    show m = _
    dsimp only at q1 q2
    rw [q2, q1]; simp [bg]
theorem cut_take {α : Type} {xs : List α} {k : Int} (h : 0 ≤ k) : cut xs none (some k) = xs.take k.toNat := by
  unfold cut HT.sIx
  simp only [if_neg (show ¬ k < 0 by omega)]
  rw [Nat.sub_zero, List.drop_zero]
  by_cases q : k.toNat ≤ xs.length
  · rw [Nat.min_eq_left q]
  · rw [Nat.min_eq_right (by omega), List.take_length, List.take_of_length_le (by omega)]
theorem pbeg_ok {ps : List (Str × Int)} {pc : Int} (hl : ps.length ≤ 12) (hT : (ps.map fun y => y.2).sum * pc ≤ (ps.map fun y => y.2).sum * 100) (h1 : 0 ≤ pc) (h2 : pc ≤ 100) : o_beginning ps pc ∧ v_beginning ps pc = (bg ((ps.map fun y => y.2).sum * pc) 0 (ps.map fun y => y.2) : Int) := by
  have key : ∀ P : Int → Prop, (∀ z, z = ((bg ((ps.map fun y => y.2).sum * pc) 0 (ps.map fun y => y.2) : Nat) : Int) → P z) → o_beginning ps pc ∧ P (v_beginning ps pc) := by
    intro P hP
    unfold o_beginning v_beginning
    refine band (by show _ < 16777216; omega) (band (fun _ _ => trivial) (both (· = (ps.map fun y => y.2).sum) rfl ?_))
    rintro _ rfl
    refine both (· = (0 : Int)) rfl ?_
    rintro _ rfl
    refine band (okr_lit (by omega) (by omega) (by omega) (by omega)) ?_
    generalize hTT : (ps.map fun y => y.2).sum * pc = T at *
    refine bwalk (fun pre (t : Int) => pre.length ≤ ps.length ∧ t = ((ps.take pre.length).map fun y => y.2).sum ∧ bg T 0 (ps.map fun y => y.2) = pre.length + bg T t ((ps.drop pre.length).map fun y => y.2)) ⟨Nat.zero_le _, rfl, by simp⟩ ?_ ?_
    · rintro pre y post t e ⟨q0, q1, q2⟩
      obtain ⟨_, r2, r3, r4⟩ := rng_split e
      refine ⟨⟨cmulR (by decide) (by decide), cmulR (by omega) (by omega), ⟨fun _ => trivial, fun hn => ⟨?_, trivial⟩⟩⟩, ?_⟩
      · have hn := of_decide_eq_false hn
        refine okx_of r2 ?_
        rcases Nat.lt_or_ge pre.length ps.length with h | h
        · omega
        · have : pre.length = ps.length := by omega
          rw [this, List.take_length] at q1
          rw [q1] at hn
          omega
      · by_cases h : T ≤ t * 100
        · rw [decide_eq_true h]
          show P y
          refine hP _ ?_
          rw [q2, bg_stop h]; omega
        · rw [decide_eq_false h]
          have hlt : pre.length < ps.length := by
            rcases Nat.lt_or_ge pre.length ps.length with h' | h'
            · exact h'
            · have : pre.length = ps.length := by omega
              rw [this, List.take_length] at q1
              rw [q1] at h
              omega
          have hg : gt ps y = ps[pre.length] := by
            rw [show y = ((pre.length : Nat) : Int) by omega]
            exact gt_some (List.getElem?_eq_getElem hlt)
          show (pre ++ [y]).length ≤ ps.length ∧ t + (gt ps y).2 = _ ∧ _
          rw [List.length_append, List.length_singleton, hg]
          refine ⟨hlt, ?_, ?_⟩
          · rw [List.take_add_one, List.getElem?_eq_getElem hlt, Option.toList_some, List.map_append, List.sum_append, ← q1]; simp
          · rw [List.drop_eq_getElem_cons hlt, List.map_cons] at q2
            rw [bg_step h] at q2
            omega
    · rintro t ⟨q0, _⟩
      rw [len_rng] at q0
      omega
  exact key _ fun z h => h
theorem perm_sum : ∀ {l m : List Int}, l.Perm m → l.sum = m.sum := fun h => by
  induction h with
  | nil => rfl
  | cons x _ ih => rw [List.sum_cons, List.sum_cons, ih]
  | swap x y l => rw [List.sum_cons, List.sum_cons, List.sum_cons, List.sum_cons]; omega
  | trans _ _ h1 h2 => rw [h1, h2]
theorem rng_nd {i j : Int} : (rng i j).Nodup := by
  unfold rng
  exact List.pairwise_map.mpr (List.pairwise_lt_range.imp fun {a b} h e => by omega)
theorem fall_perm {vs order : List Int} (h : Fall vs order) : order.Perm (rng 0 (vs.length : Int)) := by
  refine (List.perm_ext_iff_of_nodup h.nd rng_nd).mpr fun a => ⟨fun ha => mem_rng.mpr (h.rg a ha), fun ha => ?_⟩
  refine Classical.byContradiction fun hn => ?_
  have := nodup_le (l := a :: order) (m := rng 0 (vs.length : Int)) (List.nodup_cons.mpr ⟨hn, h.nd⟩) fun x hx => by
    rcases List.mem_cons.mp hx with rfl | hx
    · exact ha
    · exact mem_rng.mpr (h.rg x hx)
  rw [List.length_cons, len_rng, h.len] at this
  omega
theorem rng_gt {α : Type} [Inhabited α] {xs : List α} : ((rng 0 (xs.length : Int)).map fun k => gt xs k) = xs := by
  refine List.ext_getElem? fun k => ?_
  rw [List.getElem?_map]
  by_cases h : k < xs.length
  · rw [at_rng (by omega), List.getElem?_eq_getElem h]
    show some (gt xs (0 + k)) = _
    rw [Int.zero_add, gt_some (List.getElem?_eq_getElem h)]
  · rw [List.getElem?_eq_none (by rw [len_rng]; omega), List.getElem?_eq_none (by omega)]; rfl
end K24

set_option maxHeartbeats 2000000
/-! K24F: the items by value, the classes. -/
namespace K24
open PySem ZZ L2
structure Nm (names : List Str) (n : Int) : Prop where
  len : (names.length : Int) = n
  pw : names.Pairwise (fun a b => leS a b = true)
  nd : names.Nodup
  wd : ∀ s ∈ names, Wd s
theorem gt_get {α : Type} [Inhabited α] {xs : List α} {k : Int} (h0 : 0 ≤ k) (h : k.toNat < xs.length) : gt xs k = xs[k.toNat] := by
  have := gt_some (xs := xs) (k := k.toNat) (List.getElem?_eq_getElem h)
  rwa [Int.toNat_of_nonneg h0] at this
theorem gt_mem {α : Type} [Inhabited α] {xs : List α} {k : Int} (h0 : 0 ≤ k) (h : k < xs.length) : gt xs k ∈ xs := by
  rw [gt_get h0 (by omega)]; exact List.getElem_mem _
theorem nm_lt {names : List Str} {n a b : Int} (h : Nm names n) (h0 : 0 ≤ a) (h1 : a < b) (h2 : b < n) : leS (gt names a) (gt names b) = true := by
  have hl := h.len
  rw [gt_get h0 (by omega), gt_get (by omega) (by omega)]
  exact List.pairwise_iff_getElem.mp h.pw _ _ (by omega) (by omega) (by omega)
theorem nm_inj {names : List Str} {n a b : Int} (h : Nm names n) (h0 : 0 ≤ a) (h1 : a < n) (h2 : 0 ≤ b) (h3 : b < n) (e : gt names a = gt names b) : a = b := by
  have hl := h.len
  rw [gt_get h0 (by omega), gt_get h2 (by omega)] at e
  have hn := List.pairwise_iff_getElem.mp h.nd
  rcases Nat.lt_trichotomy a.toNat b.toNat with q | q | q
  · exact absurd e (hn _ _ (by omega) (by omega) q)
  · omega
  · exact absurd e.symm (hn _ _ (by omega) (by omega) q)
section
variable {names : List Str} {vs order : List Int} {items : List (Str × Int)} {marks : List Str}
theorem by_value_ok (hN : Nm names (vs.length : Int)) (hp : items.Perm ((rng 0 (vs.length : Int)).map fun k => (gt names k, gt vs k))) (hF : Fall vs order) (hl : vs.length ≤ 12) : o_by_value items ∧ v_by_value items = order.map fun k => (gt names k, gt vs k) := by
  have hil : items.length = vs.length := by rw [hp.length_eq, List.length_map, len_rng]; omega
  have e : order.map (fun k => ((0 : Int) - gt vs k, gt names k)) = srt (leP leI leS) (items.map fun y3 => (((0 : Int) - y3.2), y3.1)) := by
    refine srt_of (rowTot rowIS) ?_ ?_
    · have h1 := ((fall_perm hF).map fun k => (gt names k, gt vs k)).trans hp.symm
      have h2 := h1.map fun y3 : Str × Int => (((0 : Int) - y3.2), y3.1)
      rw [List.map_map] at h2
      exact h2
    · refine List.pairwise_map.mpr (hF.pw.imp_of_mem fun {a b} ha hb h => ?_)
      have ra := hF.rg a ha
      have rb := hF.rg b hb
      unfold leP
      dsimp only
      by_cases q : gt vs a = gt vs b
      · rw [if_pos (by rw [q])]
        rcases h with h | h
        · omega
        · exact nm_lt hN ra.1 h.2 rb.2
      · rw [if_neg (by omega)]
        rcases h with h | h
        · exact decide_eq_true (by omega)
        · exact absurd h.1 q
  constructor
  · unfold o_by_value
    refine ⟨by show _ < 16777216; omega, fun _ _ => trivial, by show _ < 16777216; omega, fun _ _ => trivial, ?_⟩
    rw [← e]
    have hol := hF.len
    exact ⟨by show _ < 16777216; rw [List.length_map]; omega, fun _ _ => trivial, trivial⟩
  · unfold v_by_value
    rw [← e, List.map_map]
    refine List.map_congr_left fun k _ => ?_
    show (gt names k, (0 : Int) - (0 - gt vs k)) = _
    rw [show (0 : Int) - (0 - gt vs k) = gt vs k by omega]
/-- what the marks are -/
structure Mk (order : List Int) (top both : Nat) (marks : List Str) : Prop where
  len : marks.length = order.length
  at' : ∀ (j : Nat) (k : Int), order[j]? = some k → gt marks k = if j < top then "a" else if j < both then "b" else "c"
theorem cls_at {t b j : Nat} (h : t ≤ b) : gt g_CLASSES (((([(t : Int), (b : Int)]).filter fun y7 => (decide (y7 ≤ (j : Int)))).map fun y7 => y7).length : Int) = if j < t then "a" else if j < b then "b" else "c" := by
  by_cases h1 : j < t
  · rw [if_pos h1, List.filter_cons_of_neg (by simp; omega), List.filter_cons_of_neg (by simp; omega)]; rfl
  · by_cases h2 : j < b
    · rw [if_neg h1, if_pos h2, List.filter_cons_of_pos (by simp; omega), List.filter_cons_of_neg (by simp; omega)]; rfl
    · rw [if_neg h1, if_neg h2, List.filter_cons_of_pos (by simp; omega), List.filter_cons_of_pos (by simp; omega)]; rfl
theorem fall_sum (hF : Fall vs order) : (order.map fun k => gt vs k).sum = vs.sum := by
  rw [perm_sum ((fall_perm hF).map fun k => gt vs k), rng_gt]
theorem classes_ok {first second : Int} (hN : Nm names (vs.length : Int)) (hp : items.Perm ((rng 0 (vs.length : Int)).map fun k => (gt names k, gt vs k))) (hF : Fall vs order) (hl : vs.length ≤ 12) (hs : 0 ≤ vs.sum) (h0 : 0 ≤ first) (h1 : first ≤ second) (h2 : second ≤ 100)
    (hM : Mk order (bg (first * vs.sum) 0 (order.map fun k => gt vs k)) (bg (second * vs.sum) 0 (order.map fun k => gt vs k)) marks) : o_classes items first second ∧ v_classes items first second = (rng 0 (names.length : Int)).map fun y => (gt names y, gt marks y) := by
  have key : ∀ P : List (Str × Str) → Prop, P ((rng 0 (names.length : Int)).map fun y => (gt names y, gt marks y)) → o_classes items first second ∧ P (v_classes items first second) := by
    intro P hP
    obtain ⟨b1, b2⟩ := by_value_ok hN hp hF hl
    have hol := hF.len
    have hsnd : ((order.map fun k => (gt names k, gt vs k)).map fun y => y.2) = order.map fun k => gt vs k := by rw [List.map_map]; rfl
    have hT : ∀ pc : Int, pc ≤ 100 → (((order.map fun k => (gt names k, gt vs k)).map fun y => y.2).sum * pc) ≤ ((order.map fun k => (gt names k, gt vs k)).map fun y => y.2).sum * 100 := fun pc h => by
      rw [hsnd, fall_sum hF]
      exact Int.mul_le_mul_of_nonneg_left h hs
    obtain ⟨c1, c2⟩ := pbeg_ok (ps := order.map fun k => (gt names k, gt vs k)) (pc := first) (by rw [List.length_map]; omega) (hT _ (by omega)) h0 (by omega)
    obtain ⟨d1, d2⟩ := pbeg_ok (ps := order.map fun k => (gt names k, gt vs k)) (pc := second) (by rw [List.length_map]; omega) (hT _ (by omega)) (by omega) h2
    rw [hsnd, fall_sum hF, Int.mul_comm] at c2 d2
    generalize ht : bg (first * vs.sum) 0 (order.map fun k => gt vs k) = top at *
    generalize hb : bg (second * vs.sum) 0 (order.map fun k => gt vs k) = bot at *
    have htb : top ≤ bot := by
      rw [← ht, ← hb]
      exact bg_mono (Int.mul_le_mul_of_nonneg_right h1 hs)
    unfold o_classes v_classes
    refine band b1 (both (· = order.map fun k => (gt names k, gt vs k)) b2 ?_)
    rintro _ rfl
    refine band c1 (band d1 (both (· = ((top : Int), (bot : Int))) (by rw [c2, d2]) ?_))
    rintro _ rfl
    refine both (· = ([] : List (Str × Str))) rfl ?_
    rintro _ rfl
    refine bloopC (fun pre (s : List (Str × Str)) => s = pre.map fun y6 : Int × (Str × Int) => (y6.2.1, (gt g_CLASSES (((([(top : Int), (bot : Int)]).filter fun y7 => (decide (y7 ≤ y6.1))).map fun y7 => y7).length : Int)))) rfl ?_ fun s13 h13 => ?_
    · rintro pre y post s e rfl P hP
      have hpl : pre.length < 12 := by
        have := congrArg List.length e
        rw [len_enm, List.length_map, List.length_append, List.length_cons] at this
        omega
      have hf : (((([(top : Int), (bot : Int)]).filter fun y7 => (decide (y7 ≤ y.1))).map fun y7 => y7).length : Int) < 3 := by
        have := List.length_filter_le (fun y7 => decide (y7 ≤ y.1)) [(top : Int), (bot : Int)]
        rw [List.length_map]
        simp only [List.length_cons, List.length_nil] at this
        omega
      refine ⟨⟨by show _ < 16777216; rw [List.length_map]; omega, by show 2 < 16777216; decide, fun _ _ => ⟨trivial, fun _ => trivial⟩, okx_of (by omega) hf, trivial⟩, hP _ ?_⟩
      rw [List.map_append]; rfl
    · refine bend trivial ?_
      have e : ((enm (order.map fun k => (gt names k, gt vs k))).map fun y6 : Int × (Str × Int) => (y6.2.1, (gt g_CLASSES (((([(top : Int), (bot : Int)]).filter fun y7 => (decide (y7 ≤ y6.1))).map fun y7 => y7).length : Int)))) = order.map fun k => (gt names k, gt marks k) := by
        refine List.ext_getElem? fun j => ?_
        rw [List.getElem?_map, List.getElem?_map]
        by_cases hj : j < order.length
        · rw [at_enm (v := (gt names order[j], gt vs order[j])) (by rw [List.getElem?_map, List.getElem?_eq_getElem hj]; rfl), List.getElem?_eq_getElem hj]
          show some (gt names order[j], _) = some (gt names order[j], _)
          rw [hM.at' j _ (List.getElem?_eq_getElem hj)]
          rw [show ((((j : Int), (gt names order[j], gt vs order[j])) : Int × (Str × Int))).1 = (j : Int) from rfl, cls_at htb]
        · rw [List.getElem?_eq_none (by rw [len_enm, List.length_map]; omega), List.getElem?_eq_none (by omega)]; rfl
      rw [h13, e]
      have hnl := hN.len
      have e2 : (rng 0 (names.length : Int)).map (fun y => (gt names y, gt marks y)) = srt (leP leS leS) (order.map fun k => (gt names k, gt marks k)) := by
        refine srt_of (rowTot rowSS) ?_ ?_
        · rw [hnl]; exact ((fall_perm hF).map fun k => (gt names k, gt marks k)).symm
        · refine List.pairwise_map.mpr ?_
          unfold rng
          refine List.pairwise_map.mpr (List.pairwise_lt_range.imp_of_mem fun {a b} ha hb h => ?_)
          rw [List.mem_range] at ha hb
          unfold leP
          dsimp only
          rw [if_neg fun q => by have := nm_inj hN (by omega) (by omega) (by omega) (by omega) q; omega]
          exact nm_lt hN (by omega) (by omega) (by omega)
      rw [← e2]
      exact hP
  exact key (fun z => z = _) rfl
end
end K24

set_option maxHeartbeats 2000000
/-! K24G: the rests, the plan, the next count. -/
namespace K24
open PySem ZZ L2
theorem rng_pre {n : Int} {pre post : List Int} {y : Int} (e : rng 0 n = pre ++ y :: post) : pre = rng 0 y := by
  obtain ⟨_, r2, r3, r4⟩ := rng_split e
  have h : pre = (rng 0 n).take pre.length := by rw [e, List.take_left']; rfl
  rw [h]
  unfold rng
  rw [← List.map_take, List.take_range]
  congr 2
  omega
/-- how many of a class -/
def cn (marks : List Str) (c : Str) (l : List Int) : Int := ((l.filter fun j => decide (gt marks j = c)).length : Int)
theorem cn_add {marks : List Str} {c : Str} {l : List Int} {y : Int} : cn marks c (l ++ [y]) = cn marks c l + (if gt marks y = c then 1 else 0) := by
  unfold cn
  rw [List.filter_append]
  by_cases h : gt marks y = c
  · rw [List.filter_cons_of_pos (by simpa using h), if_pos h]; simp
  · rw [List.filter_cons_of_neg (by simpa using h), if_neg h]; simp
def per (marks : List Str) (ps : List Int) (k : Int) : Int := gt ps (sidv "abc" (gt marks k))
def rv (marks : List Str) (ps : List Int) (k : Int) : Int × Int := (per marks ps k, cn marks (gt marks k) (rng 0 k) % per marks ps k)
theorem sx_a : sidx "abc" "a" = some 0 := by decide +kernel
theorem sx_b : sidx "abc" "b" = some 1 := by decide +kernel
theorem sx_c : sidx "abc" "c" = some 2 := by decide +kernel
theorem sv_a : sidv "abc" "a" = 0 := by unfold sidv; rw [sx_a]; rfl
theorem sv_b : sidv "abc" "b" = 1 := by unfold sidv; rw [sx_b]; rfl
theorem sv_c : sidv "abc" "c" = 2 := by unfold sidv; rw [sx_c]; rfl
def Cls (marks : List Str) (n : Int) : Prop := (marks.length : Int) = n ∧ ∀ k : Int, 0 ≤ k → k < n → gt marks k = "a" ∨ gt marks k = "b" ∨ gt marks k = "c"
def Ps (ps : List Int) : Prop := ps.length = 3 ∧ ∀ p ∈ ps, 1 ≤ p ∧ p ≤ 100
theorem ps_at {ps : List Int} (h : Ps ps) {j : Int} (h0 : 0 ≤ j) (h1 : j < 3) : 1 ≤ gt ps j ∧ gt ps j ≤ 100 := h.2 _ (gt_mem h0 (by rw [h.1]; exact h1))
theorem sv_in {marks : List Str} {n k : Int} (h : Cls marks n) (h0 : 0 ≤ k) (h1 : k < n) : 0 ≤ sidv "abc" (gt marks k) ∧ sidv "abc" (gt marks k) < 3 ∧ (sidx "abc" (gt marks k)).isSome = true := by
  rcases h.2 k h0 h1 with e | e | e <;> rw [e]
  · rw [sv_a, sx_a]; exact ⟨by decide, by decide, rfl⟩
  · rw [sv_b, sx_b]; exact ⟨by decide, by decide, rfl⟩
  · rw [sv_c, sx_c]; exact ⟨by decide, by decide, rfl⟩
theorem lrests_ok {names marks : List Str} {ps : List Int} (hM : Cls marks (names.length : Int)) (hP : Ps ps) (hl : names.length ≤ 12) : ∀ P : List (Int × Int) → Prop, P ((rng 0 (names.length : Int)).map (rv marks ps)) → o__law_rests names marks ps ∧ P (v__law_rests names marks ps) := by
  intro P hPP
  unfold o__law_rests v__law_rests
  refine both (· = ([] : List (Int × Int))) rfl ?_
  rintro _ rfl
  refine both (· = ([0, 0, 0] : List Int)) rfl ?_
  rintro _ rfl
  refine band (okr_lit (by omega) (by omega) (by omega) (by omega)) ?_
  refine bloopC (fun pre (s : List (Int × Int) × List Int) => s.1 = pre.map (rv marks ps) ∧ s.2 = [cn marks "a" pre, cn marks "b" pre, cn marks "c" pre]) ⟨rfl, rfl⟩ ?_ fun s h => ⟨trivial, by rw [h.1]; exact hPP⟩
  rintro pre y post ⟨s1, s2⟩ e ⟨rfl, rfl⟩ P hP'
  obtain ⟨_, r2, r3, r4⟩ := rng_split e
  have hpre := rng_pre e
  have hs := sv_in hM r2 r3
  have hp := ps_at hP hs.1 hs.2.1
  refine band (okx_of r2 (by rw [hM.1]; exact r3)) (band hs.2.2 ?_)
  refine both (fun j => j = sidv "abc" (gt marks y)) rfl ?_
  rintro _ rfl
  have hx3 : ∀ a b c : Int, okx [a, b, c] (sidv "abc" (gt marks y)) := fun a b c => okx_of hs.1 hs.2.1
  have hxp : okx ps (sidv "abc" (gt marks y)) := okx_of hs.1 (by rw [hP.1]; exact hs.2.1)
  refine band (by show _ < 16777216; rw [List.length_map]; omega) (band hxp (band (hx3 _ _ _) (band hxp (band (by omega) ?_))))
  have hrv : (gt ps (sidv "abc" (gt marks y)), gt [cn marks "a" pre, cn marks "b" pre, cn marks "c" pre] (sidv "abc" (gt marks y)) % gt ps (sidv "abc" (gt marks y))) = rv marks ps y := by
    unfold rv per
    rw [← hpre]
    rcases hM.2 y r2 r3 with q | q | q <;> rw [q]
    · rw [sv_a]; rfl
    · rw [sv_b]; rfl
    · rw [sv_c]; rfl
  refine both (· = pre.map (rv marks ps) ++ [rv marks ps y]) (by dsimp only; rw [hrv]) ?_
  rintro _ rfl
  refine band (hx3 _ _ _) (band (hx3 _ _ _) (both (· = [cn marks "a" (pre ++ [y]), cn marks "b" (pre ++ [y]), cn marks "c" (pre ++ [y])]) ?_ ?_))
  · rw [cn_add, cn_add, cn_add]
    rcases hM.2 y r2 r3 with q | q | q <;> rw [q]
    · rw [sv_a, if_pos rfl, if_neg (by decide +kernel), if_neg (by decide +kernel), Int.add_zero, Int.add_zero]; rfl
    · rw [sv_b, if_pos rfl, if_neg (by decide +kernel), if_neg (by decide +kernel), Int.add_zero, Int.add_zero]; rfl
    · rw [sv_c, if_pos rfl, if_neg (by decide +kernel), if_neg (by decide +kernel), Int.add_zero, Int.add_zero]; rfl
  · rintro _ rfl
    exact ⟨trivial, hP' _ ⟨by rw [List.map_append]; rfl, rfl⟩⟩
/-! ### the dictionary -/
theorem dput_new {κ β : Type} [DecidableEq κ] {d : List (κ × β)} {k : κ} {v : β} (h : k ∉ d.map Prod.fst) : dput d k v = d ++ [(k, v)] := by
  unfold dput
  rw [if_neg]
  intro q
  rw [List.any_eq_true] at q
  obtain ⟨p, hp, e⟩ := q
  exact h (List.mem_map.mpr ⟨p, hp, of_decide_eq_true e⟩)
theorem dget_in {κ β : Type} [DecidableEq κ] : ∀ {d : List (κ × β)} {k : κ} {v : β}, (d.map Prod.fst).Nodup → (k, v) ∈ d → dget d k = some v
  | [], _, _, _, h => absurd h List.not_mem_nil
  | p :: d, k, v, hn, h => by
    rw [List.map_cons] at hn
    obtain ⟨h1, h2⟩ := List.nodup_cons.mp hn
    rw [dget_cons]
    rcases List.mem_cons.mp h with rfl | h
    · rw [if_pos rfl]
    · rw [if_neg fun e => h1 (by rw [e]; exact List.mem_map.mpr ⟨(k, v), h, rfl⟩)]
      exact dget_in h2 h
theorem dhas_not {κ β : Type} [DecidableEq κ] : ∀ {d : List (κ × β)} {k : κ}, k ∉ d.map Prod.fst → dhas d k = false
  | [], _, _ => rfl
  | p :: d, k, h => by
    rw [List.map_cons] at h
    unfold dhas
    rw [dget_cons, if_neg fun e => h (by rw [← e]; exact List.mem_cons_self)]
    exact dhas_not fun q => h (List.mem_cons_of_mem _ q)
/-- the places of a class, the entries of a class -/
def pls (marks : List Str) (n : Int) (c : Str) : List Int := (rng 0 n).filter fun k => decide (gt marks k = c)
def ent (names marks : List Str) (c : Str) (p : Int) : List (Str × (Int × Int)) := (enm ((pls marks (names.length : Int) c).map fun k => gt names k)).map fun y10 => (y10.2, (y10.1 % p, p))
theorem map_snd_enm {α : Type} {xs : List α} : (enm xs).map (fun y => y.2) = xs := by
  refine List.ext_getElem? fun j => ?_
  rw [List.getElem?_map]
  by_cases h : j < xs.length
  · rw [at_enm (List.getElem?_eq_getElem h), List.getElem?_eq_getElem h]; rfl
  · rw [List.getElem?_eq_none (by rw [len_enm]; omega), List.getElem?_eq_none (by omega)]; rfl
theorem ent_keys {names marks : List Str} {c : Str} {p : Int} : (ent names marks c p).map Prod.fst = (pls marks (names.length : Int) c).map fun k => gt names k := by
  unfold ent
  rw [List.map_map]
  exact map_snd_enm
theorem mem_pls {marks : List Str} {n : Int} {c : Str} {k : Int} : k ∈ pls marks n c ↔ (0 ≤ k ∧ k < n) ∧ gt marks k = c := by
  unfold pls
  rw [List.mem_filter, mem_rng, decide_eq_true_eq]
end K24

set_option maxHeartbeats 2000000
/-! K24H: the dictionary of rests, the plan, the next count. -/
namespace K24
open PySem ZZ L2
def Dd (names marks : List Str) (ps : List Int) : List (Str × (Int × Int)) := ((List.zip g_CLASSES ps).map fun y5 => ent names marks y5.1 y5.2).flatten
section
variable {names marks : List Str} {ps : List Int} {items : List (Str × Int)} {first second : Int}
theorem ps_three (h : Ps ps) : ∃ a b c, ps = [a, b, c] := by
  obtain ⟨h, _⟩ := h
  match ps, h with
  | [a, b, c], _ => exact ⟨a, b, c, rfl⟩
theorem dd_eq {a b c : Int} : Dd names marks [a, b, c] = ent names marks "a" a ++ (ent names marks "b" b ++ (ent names marks "c" c ++ [])) := rfl
theorem dd_keys (h : Ps ps) : (Dd names marks ps).map Prod.fst = (pls marks (names.length : Int) "a" ++ pls marks (names.length : Int) "b" ++ pls marks (names.length : Int) "c").map fun k => gt names k := by
  obtain ⟨a, b, c, rfl⟩ := ps_three h
  rw [dd_eq, List.append_nil, List.map_append, List.map_append, ent_keys, ent_keys, ent_keys, List.map_append, List.map_append, List.append_assoc]
theorem ab_ne : ("a" : Str) ≠ "b" := by decide +kernel
theorem ac_ne : ("a" : Str) ≠ "c" := by decide +kernel
theorem bc_ne : ("b" : Str) ≠ "c" := by decide +kernel
theorem pls_perm {n : Int} (hM : Cls marks n) : (pls marks n "a" ++ pls marks n "b" ++ pls marks n "c").Perm (rng 0 n) := by
  have nd : ∀ c, (pls marks n c).Nodup := fun c => List.Pairwise.filter _ rng_nd
  refine (List.perm_ext_iff_of_nodup ?_ rng_nd).mpr fun k => ?_
  · refine List.nodup_append.mpr ⟨List.nodup_append.mpr ⟨nd _, nd _, fun x hx y hy e => ?_⟩, nd _, fun x hx y hy e => ?_⟩
    · rw [mem_pls] at hx hy
      rw [e, hy.2] at hx
      exact ab_ne hx.2.symm
    · rw [mem_pls] at hy
      rcases List.mem_append.mp hx with hx | hx
      · rw [mem_pls, e, hy.2] at hx
        exact ac_ne hx.2.symm
      · rw [mem_pls, e, hy.2] at hx
        exact bc_ne hx.2.symm
  · rw [List.mem_append, List.mem_append, mem_pls, mem_pls, mem_pls, mem_rng]
    constructor
    · rintro ((h | h) | h) <;> exact h.1
    · intro h
      rcases hM.2 k h.1 h.2 with e | e | e
      · exact .inl (.inl ⟨h, e⟩)
      · exact .inl (.inr ⟨h, e⟩)
      · exact .inr ⟨h, e⟩
theorem dd_perm (hM : Cls marks (names.length : Int)) (h : Ps ps) : ((Dd names marks ps).map Prod.fst).Perm names := by
  rw [dd_keys h]
  have := (pls_perm hM).map fun k => gt names k
  rwa [rng_gt] at this
theorem dd_at (hN : Nm names (names.length : Int)) (hM : Cls marks (names.length : Int)) (h : Ps ps) {k : Int} (h0 : 0 ≤ k) (h1 : k < names.length) : dget (Dd names marks ps) (gt names k) = some ((rv marks ps k).2, (rv marks ps k).1) := by
  refine dget_in ((dd_perm hM h).nodup_iff.mpr hN.nd) ?_
  obtain ⟨pre, post, e⟩ := List.append_of_mem (mem_rng.mpr ⟨h0, h1⟩)
  have hpre := rng_pre e
  have he : ∀ c, gt marks k = c → ∀ p, (gt names k, (cn marks c (rng 0 k) % p, p)) ∈ ent names marks c p := fun c hc p => by
    unfold ent
    refine List.mem_map.mpr ⟨(cn marks c (rng 0 k), gt names k), ?_, rfl⟩
    unfold pls
    rw [e, List.filter_append, List.filter_cons_of_pos (by simpa using hc), List.map_append, List.map_cons]
    refine List.mem_of_getElem? (i := (pre.filter fun j => decide (gt marks j = c)).length) ?_
    rw [at_enm (v := gt names k) (by rw [List.getElem?_append_right (by rw [List.length_map]; exact Nat.le_refl _), List.length_map, Nat.sub_self]; rfl)]
    rw [hpre]; rfl
  obtain ⟨a, b, c, rfl⟩ := ps_three h
  rw [dd_eq]
  unfold rv per
  rcases hM.2 k h0 h1 with q | q | q <;> rw [q]
  · rw [sv_a]; exact List.mem_append_left _ (he "a" q a)
  · rw [sv_b]; exact List.mem_append_right _ (List.mem_append_left _ (he "b" q b))
  · rw [sv_c]; exact List.mem_append_right _ (List.mem_append_right _ (List.mem_append_left _ (he "c" q c)))
theorem flat_le {α β : Type} {f : α → List β} {m : Nat} (h : ∀ x, (f x).length ≤ m) : ∀ l : List α, (l.map f).flatten.length ≤ m * l.length
  | [] => Nat.zero_le _
  | x :: l => by
    rw [List.map_cons, List.flatten_cons, List.length_append, List.length_cons, Nat.mul_add, Nat.mul_one]
    have h1 := h x
    have h2 := flat_le h l
    omega
/-- the def rests, where the classes are as due -/
theorem rests_ok (hN : Nm names (names.length : Int)) (hM : Cls marks (names.length : Int)) (hP : Ps ps) (hl : names.length ≤ 12) (hc : o_classes items first second ∧ v_classes items first second = (rng 0 (names.length : Int)).map fun y => (gt names y, gt marks y)) : ∀ P : List (Str × (Int × Int)) → Prop, P (Dd names marks ps) → o_rests items first second ps ∧ P (v_rests items first second ps) := by
  intro P hPP
  unfold o_rests v_rests
  refine band hc.1 (both (· = (rng 0 (names.length : Int)).map fun y => (gt names y, gt marks y)) hc.2 ?_)
  rintro _ rfl
  refine both (· = ([] : List (Str × (Int × Int)))) rfl ?_
  rintro _ rfl
  have hzf : (List.zip g_CLASSES ps).map Prod.fst = (["a", "b", "c"] : List Str) := by
    obtain ⟨a, b, c, rfl⟩ := ps_three hP; rfl
  refine bloopC (fun pre (s : List (Str × (Int × Int))) => s = (pre.map fun y5 : Str × Int => ent names marks y5.1 y5.2).flatten) rfl ?_ fun s h => ⟨trivial, by rw [h]; exact hPP⟩
  rintro pre ⟨c, p⟩ post s e rfl P hP'
  have hp : 1 ≤ p := by
    have : (c, p) ∈ List.zip g_CLASSES ps := e ▸ List.mem_append_right _ List.mem_cons_self
    exact (hP.2 p (List.of_mem_zip this).2).1
  have hcn : ∀ y ∈ pre, y.1 ≠ c := by
    have : ((pre ++ (c, p) :: post).map Prod.fst).Nodup := by
      rw [← e, hzf]
      exact List.nodup_cons.mpr ⟨by decide +kernel, List.nodup_cons.mpr ⟨by decide +kernel, List.nodup_cons.mpr ⟨by decide +kernel, List.nodup_nil⟩⟩⟩
    rw [List.map_append, List.nodup_append] at this
    exact fun y hy q => this.2.2 y.1 (List.mem_map_of_mem hy) c List.mem_cons_self q
  have hmem : (((rng 0 (names.length : Int)).map fun y => (gt names y, gt marks y)).filter fun y6 : Str × Str => decide (y6.2 = c)).map (fun y6 => y6.1) = (pls marks (names.length : Int) c).map fun k => gt names k := by
    rw [List.filter_map, List.map_map]; rfl
  have hlen : (pls marks (names.length : Int) c).length ≤ 12 := by
    have := List.length_filter_le (fun k => decide (gt marks k = c)) (rng 0 (names.length : Int))
    rw [len_rng] at this
    unfold pls; omega
  have hkn : ∀ k ∈ pls marks (names.length : Int) c, gt names k ∉ ((pre.map fun y5 : Str × Int => ent names marks y5.1 y5.2).flatten).map Prod.fst := fun k hk hm => by
    rw [List.mem_map] at hm
    obtain ⟨x, hx, ex⟩ := hm
    rw [List.mem_flatten] at hx
    obtain ⟨l, hl', hxl⟩ := hx
    obtain ⟨y, hy, rfl⟩ := List.mem_map.mp hl'
    have : x.1 ∈ (ent names marks y.1 y.2).map Prod.fst := List.mem_map_of_mem hxl
    rw [ent_keys] at this
    obtain ⟨j, hj, ej⟩ := List.mem_map.mp this
    rw [mem_pls] at hj hk
    have := nm_inj hN hj.1.1 hj.1.2 hk.1.1 hk.1.2 (ej.trans ex)
    rw [this, hk.2] at hj
    exact hcn y hy hj.2.symm
  have hnd : ((pls marks (names.length : Int) c).map fun k => gt names k).Nodup := by
    refine List.pairwise_map.mpr ((List.Pairwise.filter _ rng_nd : (pls marks (names.length : Int) c).Nodup).imp_of_mem fun {a b} ha hb h q => h ?_)
    rw [mem_pls] at ha hb
    exact nm_inj hN ha.1.1 ha.1.2 hb.1.1 hb.1.2 q
  refine band (by show _ < 16777216; rw [List.length_map, len_rng]; omega) (band (fun _ _ => ⟨trivial, fun _ => trivial⟩) (both (· = (pls marks (names.length : Int) c).map fun k => gt names k) hmem ?_))
  rintro _ rfl
  refine bloopC (fun pr (s : List (Str × (Int × Int))) => s = (pre.map fun y5 : Str × Int => ent names marks y5.1 y5.2).flatten ++ pr.map fun y10 : Int × Str => (y10.2, (y10.1 % p, p))) (by simp) ?_ fun s h => ⟨trivial, hP' _ ?_⟩
  · rintro pr ⟨j, x⟩ po s e2 rfl P hP2
    have e3 := congrArg (fun l => l.map fun y : Int × Str => y.2) e2
    rw [map_snd_enm, List.map_append, List.map_cons] at e3
    have hx : x ∉ ((pre.map fun y5 : Str × Int => ent names marks y5.1 y5.2).flatten ++ pr.map fun y10 : Int × Str => (y10.2, (y10.1 % p, p))).map Prod.fst := by
      rw [List.map_append, List.mem_append]
      rintro (h | h)
      · have : x ∈ (pls marks (names.length : Int) c).map fun k => gt names k := by rw [e3]; exact List.mem_append_right _ List.mem_cons_self
        obtain ⟨k, hk, rfl⟩ := List.mem_map.mp this
        exact hkn k hk h
      · rw [e3, List.nodup_append] at hnd
        rw [List.map_map] at h
        exact hnd.2.2 x h x List.mem_cons_self rfl
    have hsz : ((pre.map fun y5 : Str × Int => ent names marks y5.1 y5.2).flatten ++ pr.map fun y10 : Int × Str => (y10.2, (y10.1 % p, p))).length < 16777216 := by
      have h1 := flat_le (f := fun y5 : Str × Int => ent names marks y5.1 y5.2) (m := 12) (fun y => by
        have h := congrArg List.length (ent_keys (names := names) (marks := marks) (c := y.1) (p := y.2))
        rw [List.length_map, List.length_map] at h
        have h2 := List.length_filter_le (fun k => decide (gt marks k = y.1)) (rng 0 (names.length : Int))
        rw [len_rng] at h2
        unfold pls at h
        omega) pre
      have h2 := congrArg List.length e
      have h3 := congrArg List.length e2
      rw [len_enm, List.length_map, List.length_append, List.length_cons] at h3
      have h4 := congrArg List.length hzf
      rw [List.length_map, h2, List.length_append, List.length_cons] at h4
      simp only [List.length_cons, List.length_nil] at h4
      rw [List.length_append, List.length_map]
      omega
    refine band (show (0 : Int) < p by omega) (band hsz (both (· = (pre.map fun y5 : Str × Int => ent names marks y5.1 y5.2).flatten ++ pr.map (fun y10 : Int × Str => (y10.2, (y10.1 % p, p))) ++ [(x, (j % p, p))]) (dput_new hx) ?_))
    rintro _ rfl
    refine ⟨trivial, hP2 _ ?_⟩
    rw [List.map_append, List.append_assoc]; rfl
  · rw [h, List.map_append, List.flatten_append]
    simp [ent]
end
end K24

set_option maxHeartbeats 2000000
/-! K24I: the plan, the next count. -/
namespace K24
open PySem ZZ L2
section
variable {names marks : List Str} {ps : List Int} {items : List (Str × Int)} {first second : Int}
def plan (names marks : List Str) (ps : List Int) (days : Int) : List (List Str) := (rng 0 days).map fun d => (((rng 0 (names.length : Int)).filter fun k => decide (d % (rv marks ps k).1 = (rv marks ps k).2)).map fun k => gt names k)
theorem gt_rmap {α : Type} [Inhabited α] {f : Int → α} {n k : Int} (h0 : 0 ≤ k) (h1 : k < n) : gt ((rng 0 n).map f) k = f k := by
  rw [gt_get h0 (by rw [List.length_map, len_rng]; omega)]
  rw [List.getElem_map]
  have := at_rng (i := 0) (j := n) (k := k.toNat) (by omega)
  obtain ⟨_, h⟩ := List.getElem?_eq_some_iff.mp this
  rw [h]
  congr 1
  omega
theorem rv_pos (hM : Cls marks (names.length : Int)) (hP : Ps ps) {k : Int} (h0 : 0 ≤ k) (h1 : k < names.length) : 0 < (rv marks ps k).1 := by
  have hs := sv_in hM h0 h1
  have := ps_at hP hs.1 hs.2.1
  show 0 < per marks ps k
  unfold per
  omega
theorem lplan_ok {days : Int} (hM : Cls marks (names.length : Int)) (hP : Ps ps) (hl : names.length ≤ 12) (h0 : 0 ≤ days) (h1 : days ≤ 60) : ∀ P : List (List Str) → Prop, P (plan names marks ps days) → o__law_plan names ((rng 0 (names.length : Int)).map (rv marks ps)) days ∧ P (v__law_plan names ((rng 0 (names.length : Int)).map (rv marks ps)) days) := by
  intro P hPP
  unfold o__law_plan v__law_plan
  refine both (· = ([] : List (List Str))) rfl ?_
  rintro _ rfl
  refine band (okr_lit (by omega) (by omega) (by omega) (by omega)) ?_
  refine bloopC (fun pre (s : List (List Str)) => s = pre.map fun d => (((rng 0 (names.length : Int)).filter fun k => decide (d % (rv marks ps k).1 = (rv marks ps k).2)).map fun k => gt names k)) rfl ?_ fun s h => ⟨trivial, by rw [h]; exact hPP⟩
  rintro pre d post s e rfl P hP'
  have hpl := (rng_split e).2.2.2
  have hpl2 := (rng_split e).2.2.1
  refine band (by show _ < 16777216; rw [List.length_map]; omega) (band (okr_lit (by omega) (by omega) (by omega) (by omega)) (band (by show _ < 16777216; rw [len_rng]; omega) (band (fun k hk => ?_) ?_)))
  · rw [mem_rng] at hk
    have hx : okx ((rng 0 (names.length : Int)).map (rv marks ps)) k := okx_of hk.1 (by rw [List.length_map, len_rng]; omega)
    rw [gt_rmap hk.1 hk.2]
    exact ⟨⟨hx, rv_pos hM hP hk.1 hk.2, hx⟩, fun _ => okx_of hk.1 hk.2⟩
  · refine both (· = (pre ++ [d]).map fun d => (((rng 0 (names.length : Int)).filter fun k => decide (d % (rv marks ps k).1 = (rv marks ps k).2)).map fun k => gt names k)) ?_ ?_
    · rw [List.map_append]
      show _ ++ [_] = _ ++ [_]
      congr 3
      refine List.filter_congr fun k hk => ?_
      rw [mem_rng] at hk
      rw [gt_rmap hk.1 hk.2]
    · rintro _ rfl
      exact ⟨trivial, hP' _ rfl⟩
theorem keys_sorted (hN : Nm names (names.length : Int)) (hM : Cls marks (names.length : Int)) (hP : Ps ps) : srt leS ((Dd names marks ps).map Prod.fst) = names := (srt_of tot_leS (dd_perm hM hP).symm hN.pw).symm
theorem name_at {x : Str} (h : x ∈ names) : ∃ k : Int, 0 ≤ k ∧ k < names.length ∧ x = gt names k := by
  obtain ⟨i, hi, rfl⟩ := List.mem_iff_getElem.mp h
  refine ⟨(i : Int), by omega, by omega, ?_⟩
  rw [gt_get (by omega) (by omega)]; rfl
theorem dgv_at (hN : Nm names (names.length : Int)) (hM : Cls marks (names.length : Int)) (hP : Ps ps) {k : Int} (h0 : 0 ≤ k) (h1 : k < names.length) : dgv (Dd names marks ps) (gt names k) = ((rv marks ps k).2, (rv marks ps k).1) := by
  unfold dgv; rw [dd_at hN hM hP h0 h1]; rfl
theorem cplan_ok {days : Int} (hN : Nm names (names.length : Int)) (hM : Cls marks (names.length : Int)) (hP : Ps ps) (hl : names.length ≤ 12) (hc : o_classes items first second ∧ v_classes items first second = (rng 0 (names.length : Int)).map fun y => (gt names y, gt marks y)) (h0 : 0 ≤ days) (h1 : days ≤ 60) : ∀ P : List (List Str) → Prop, P (plan names marks ps days) → o_count_plan items first second ps days ∧ P (v_count_plan items first second ps days) := by
  intro P hPP
  unfold o_count_plan v_count_plan
  have hr := rests_ok hN hM hP hl hc (· = Dd names marks ps) rfl
  refine band hr.1 (both (· = Dd names marks ps) hr.2 ?_)
  rintro _ rfl
  refine both (· = ([] : List (List Str))) rfl ?_
  rintro _ rfl
  refine band (okr_lit (by omega) (by omega) (by omega) (by omega)) ?_
  have hdl : (Dd names marks ps).length = names.length := by
    have := (dd_perm hM hP).length_eq
    rwa [List.length_map] at this
  rw [keys_sorted hN hM hP]
  refine bloopC (fun pre (s : List (List Str)) => s = pre.map fun d => (((rng 0 (names.length : Int)).filter fun k => decide (d % (rv marks ps k).1 = (rv marks ps k).2)).map fun k => gt names k)) rfl ?_ fun s h => ⟨trivial, by rw [h]; exact hPP⟩
  rintro pre d post s e rfl P hP'
  have hpl := (rng_split e).2.2.2
  have hpl2 := (rng_split e).2.2.1
  refine band (by show _ < 16777216; rw [List.length_map]; omega) (band (by omega) (band (by show _ < 16777216; omega) (band (fun x hx => ?_) ?_)))
  · obtain ⟨k, k0, k1, rfl⟩ := name_at hx
    have hs : (dget (Dd names marks ps) (gt names k)).isSome = true := by rw [dd_at hN hM hP k0 k1]; rfl
    exact ⟨⟨hs, by rw [dgv_at hN hM hP k0 k1]; exact rv_pos hM hP k0 k1, hs⟩, fun _ => trivial⟩
  · refine both (· = (pre ++ [d]).map fun d => (((rng 0 (names.length : Int)).filter fun k => decide (d % (rv marks ps k).1 = (rv marks ps k).2)).map fun k => gt names k)) ?_ ?_
    · rw [List.map_append]
      show _ ++ [_] = _ ++ [_]
      congr 2
      have e1 : names = (rng 0 (names.length : Int)).map fun k => gt names k := rng_gt.symm
      have e2 : (names.filter fun y6 => decide (d % (dgv (Dd names marks ps) y6).2 = (dgv (Dd names marks ps) y6).1)) = ((rng 0 (names.length : Int)).map fun k => gt names k).filter fun y6 => decide (d % (dgv (Dd names marks ps) y6).2 = (dgv (Dd names marks ps) y6).1) := by rw [← e1]
      rw [List.map_id', e2, List.filter_map]
      congr 1
      refine List.filter_congr fun k hk => ?_
      rw [mem_rng] at hk
      show decide (d % (dgv (Dd names marks ps) (gt names k)).2 = (dgv (Dd names marks ps) (gt names k)).1) = _
      rw [dgv_at hN hM hP hk.1 hk.2]
    · rintro _ rfl
      exact ⟨trivial, hP' _ rfl⟩
theorem next_ok {at' day : Int} (hN : Nm names (names.length : Int)) (hM : Cls marks (names.length : Int)) (hP : Ps ps) (hl : names.length ≤ 12) (hc : o_classes items first second ∧ v_classes items first second = (rng 0 (names.length : Int)).map fun y => (gt names y, gt marks y)) (h0 : 0 ≤ at') (h1 : at' < names.length) : o_next_count items first second ps (gt names at') day ∧ v_next_count items first second ps (gt names at') day = day + ((rv marks ps at').2 - day) % (rv marks ps at').1 := by
  have key : ∀ P : Int → Prop, P (day + ((rv marks ps at').2 - day) % (rv marks ps at').1) → o_next_count items first second ps (gt names at') day ∧ P (v_next_count items first second ps (gt names at') day) := by
    intro P hPP
    unfold o_next_count v_next_count
    have hr := rests_ok hN hM hP hl hc (· = Dd names marks ps) rfl
    refine band hr.1 (both (· = Dd names marks ps) hr.2 ?_)
    rintro _ rfl
    have hs : (dget (Dd names marks ps) (gt names at')).isSome = true := by rw [dd_at hN hM hP h0 h1]; rfl
    have hd : dhas (Dd names marks ps) (gt names at') = true := hs
    rw [hd]
    refine ⟨⟨(fun h => nomatch h), fun _ => ⟨hs, ?_⟩⟩, ?_⟩
    · rw [lt_def, dgv_at hN hM hP h0 h1]
      exact ⟨rv_pos hM hP h0 h1, trivial⟩
    · show P (lt (dgv (Dd names marks ps) (gt names at')) fun t2 => day + ((t2.1 - day) % t2.2))
      rw [lt_def, dgv_at hN hM hP h0 h1]
      exact hPP
  exact key (fun z => z = _) rfl
theorem wd_zzz {s : Str} (h : Wd s) {t : Str} (ht : 122 ∈ t.cps.toList) : s ≠ t := fun e => by
  have := h.1 122 (by rw [e]; exact ht)
  omega
theorem nextx_ok {day : Int} (hN : Nm names (names.length : Int)) (hM : Cls marks (names.length : Int)) (hP : Ps ps) (hl : names.length ≤ 12) (hc : o_classes items first second ∧ v_classes items first second = (rng 0 (names.length : Int)).map fun y => (gt names y, gt marks y)) : x_next_count items first second ps ("zzz" : Str) day := by
  unfold x_next_count
  have hr := rests_ok hN hM hP hl hc (· = Dd names marks ps) rfl
  refine ⟨hr.1, ?_⟩
  rw [lt_def, hr.2]
  have hd : dhas (Dd names marks ps) "zzz" = false := dhas_not fun h => wd_zzz (hN.wd _ ((dd_perm hM hP).mem_iff.mp h)) (by decide +kernel) rfl
  rw [hd]
  exact ⟨fun _ => trivial, (fun h => nomatch h)⟩
theorem nexth_ok {percents : List Int} {at' day : Int} (hN : Nm names (names.length : Int)) (hM : Cls marks (names.length : Int)) (hP : Ps ps) (hl : names.length ≤ 12) (hpc : percents.length = 2) (hc : o_classes items (gt percents 0) (gt percents 1) ∧ v_classes items (gt percents 0) (gt percents 1) = (rng 0 (names.length : Int)).map fun y => (gt names y, gt marks y)) (h0 : 0 ≤ at') (h1 : at' < names.length) :
    o__law_next_holds items percents ps names ((rng 0 (names.length : Int)).map (rv marks ps)) at' day ∧ v__law_next_holds items percents ps names ((rng 0 (names.length : Int)).map (rv marks ps)) at' day = true := by
  unfold o__law_next_holds v__law_next_holds
  have hx : okx ((rng 0 (names.length : Int)).map (rv marks ps)) at' := okx_of h0 (by rw [List.length_map, len_rng]; omega)
  have hp0 : okx percents 0 := okx_of (by decide) (by omega)
  have hp1 : okx percents 1 := okx_of (by decide) (by omega)
  have hn := next_ok (day := day) hN hM hP hl hc h0 h1
  rw [gt_rmap h0 h1]
  refine ⟨⟨hx, hx, rv_pos hM hP h0 h1, hp0, hp1, okx_of h0 h1, hn.1, ?_⟩, rfl⟩
  rw [lt_def]
  exact ⟨hn.2, fun _ => trivial, fun _ => ⟨hp0, hp1, nextx_ok hN hM hP hl hc, trivial⟩⟩
theorem nm_ok (hN : Nm names (names.length : Int)) : ∀ s ∈ names, PyData.strOk s = true := fun s hs => by
  show s.cps.all (· < 0x110000) = true
  rw [Array.all_eq_true']
  intro c hc
  have := (hN.wd s hs).1 c (by simpa using hc)
  exact decide_eq_true (by omega)
theorem classesh_ok (hN : Nm names (names.length : Int)) (hl : names.length ≤ 12) (hm : marks.length = names.length) (hi : ∀ x ∈ items, x.1 ∈ names) (hc : o_classes items first second ∧ v_classes items first second = (rng 0 (names.length : Int)).map fun y => (gt names y, gt marks y)) : o__law_classes_hold items first second names marks ∧ v__law_classes_hold items first second names marks = true := by
  unfold o__law_classes_hold v__law_classes_hold
  have hE : okE (Sq true (pr2 Tx I)) items := fun x hx => ⟨nm_ok hN x.1 (hi x hx), trivial⟩
  refine ⟨⟨okr_lit (by omega) (by omega) (by omega) (by omega), by show _ < 16777216; rw [len_rng]; omega, fun k hk => ?_, ?_⟩, ?_⟩
  · rw [mem_rng] at hk
    exact ⟨okx_of hk.1 hk.2, okx_of hk.1 (by omega)⟩
  · exact ⟨hc.1, hc.2, fun _ => trivial, fun _ => ⟨⟨hE, hE⟩, fun _ => trivial, fun _ => ⟨hc.1, hc.2, trivial⟩⟩⟩
  · show cond (!decide (items = items)) false true = true
    rw [decide_eq_true rfl]; rfl
end
end K24

set_option maxHeartbeats 4000000
set_option synthInstance.maxHeartbeats 0
set_option synthInstance.maxSize 1000000
/-! K24J: the shares, by computing. -/
namespace K24
open PySem ZZ L2
instance decLt {α : Type} {v : α} {k : α → Prop} [h : ∀ x, Decidable (k x)] : Decidable (lt v k) := h v
instance decI {b : Bool} {p q : Prop} [Decidable p] [Decidable q] : Decidable (okI b p q) := match b with
  | true => if h : p then Decidable.isTrue ⟨fun _ => h, (fun h => nomatch h)⟩ else Decidable.isFalse fun z => h (z.1 rfl)
  | false => if h : q then Decidable.isTrue ⟨(fun h => nomatch h), fun _ => h⟩ else Decidable.isFalse fun z => h (z.2 rfl)
def decL {σ β : Type} (f : σ → β → σ) (ok : σ → β → Prop) [h : ∀ s y, Decidable (ok s y)] : ∀ s ys, Decidable (okL f ok s ys)
  | _, [] => Decidable.isTrue trivial
  | s, y :: ys => match h s y, decL f ok (f s y) ys with
    | Decidable.isTrue a, Decidable.isTrue b => Decidable.isTrue ⟨a, b⟩
    | Decidable.isFalse a, _ => Decidable.isFalse fun z => a z.1
    | _, Decidable.isFalse b => Decidable.isFalse fun z => b z.2
instance decL' {σ β : Type} {f : σ → β → σ} {ok : σ → β → Prop} [∀ s y, Decidable (ok s y)] {s : σ} {ys : List β} : Decidable (okL f ok s ys) := decL f ok s ys
def decW {σ ρ : Type} (c : σ → Bool) (f : σ → Ctl σ ρ) (okc ok okk : σ → Prop) [h1 : ∀ s, Decidable (okc s)] [h2 : ∀ s, Decidable (ok s)] [h3 : ∀ s, Decidable (okk s)] : ∀ n s, Decidable (okW c f okc ok okk n s)
  | 0, _ => Decidable.isFalse fun z => z
  | n + 1, s => by
    unfold okW
    refine @instDecidableAnd _ _ (h1 s) ?_
    cases c s with
    | false => exact h3 s
    | true =>
      refine @instDecidableAnd _ _ (h2 s) ?_
      cases f s with
      | nx s' => exact decW c f okc ok okk n s'
      | bk s' => exact h3 s'
      | rt r => exact Decidable.isTrue trivial
instance decW' {σ ρ : Type} {c : σ → Bool} {f : σ → Ctl σ ρ} {okc ok okk : σ → Prop} [∀ s, Decidable (okc s)] [∀ s, Decidable (ok s)] [∀ s, Decidable (okk s)] {n : Nat} {s : σ} : Decidable (okW c f okc ok okk n s) := decW c f okc ok okk n s
instance {α : Type} {P : α → Prop} [∀ x, Decidable (P x)] {xs : List α} : Decidable (okall P xs) := inferInstanceAs (Decidable (∀ x ∈ xs, P x))
instance {α : Type} {xs : List α} : Decidable (oks xs) := inferInstanceAs (Decidable (_ < _))
instance {α : Type} {xs : List α} {k : Int} : Decidable (okx xs k) := inferInstanceAs (Decidable (_ ∧ _))
instance {α : Type} {xs : List α} {k : Int} : Decidable (okrep xs k) := inferInstanceAs (Decidable (_ ∧ _ ∧ _))
instance {i j : Int} : Decidable (okr i j) := inferInstanceAs (Decidable (_ ∧ _ ∧ _ ∧ _))
instance {i j : Int} : Decidable (CDiv i j) := inferInstanceAs (Decidable (_ ∧ _))
instance {i j : Int} : Decidable (CMul i j) := inferInstanceAs (Decidable (_ ∨ _))
instance {w : List Int} {h : Int} : Decidable (o_wanting w h) := by unfold o_wanting; infer_instance
instance {w : List Int} {h : Int} : Decidable (o_poured w h) := by unfold o_poured; infer_instance
instance {w : List Int} {h : Int} : Decidable (o_height_of h w) := by unfold o_height_of; infer_instance
instance {w : List Int} {h : Int} : Decidable (o_fair_shares h w) := by unfold o_fair_shares; infer_instance
instance {w : List Int} {h : Int} : Decidable (o_unserved h w) := by unfold o_unserved; infer_instance
instance {w : List Int} {h : Int} : Decidable (o_level h w) := by unfold o_level; infer_instance
instance {w : List Int} {h : Int} : Decidable (o_rounds_of h w) := by unfold o_rounds_of; infer_instance
instance {w : List Int} {h : Int} : Decidable (o_fair_steps h w) := by unfold o_fair_steps; infer_instance
instance {m p : Int} : Decidable (o__law_shares_hold m p) := by unfold o__law_shares_hold; infer_instance
theorem shares_dec : ∀ m ∈ List.range 13, ∀ p ∈ List.range 20, o__law_shares_hold (m : Nat) ((p : Nat) + 1) := by decide +kernel
theorem shares_v (m p : Int) : v__law_shares_hold m p = true := by
  unfold v__law_shares_hold
  repeat rw [lt_def]
  show (cond (decide ((13 : Int) < m * p + 1)) true _) = true
  cases decide ((13 : Int) < m * p + 1) <;> rfl
theorem shares_ok {m p : Int} (h0 : 0 ≤ m) (h1 : m ≤ 12) (h2 : 1 ≤ p) (h3 : p ≤ 20) : o__law_shares_hold m p ∧ v__law_shares_hold m p = true := by
  refine ⟨?_, shares_v m p⟩
  have := shares_dec m.toNat (List.mem_range.mpr (by omega)) (p.toNat - 1) (List.mem_range.mpr (by omega))
  rwa [show ((m.toNat : Nat) : Int) = m by omega, show (((p.toNat - 1 : Nat) : Int) + 1) = p by omega] at this
end K24

set_option maxHeartbeats 2000000
/-! K24K: what is too few. -/
namespace K24
open PySem ZZ L2
def zz : Str := "z"
def ords (names : List Str) (each : Int) : List ((Str × Int) × (Str × Int)) := names.map fun y1 => ((y1, (1 : Int)), (zz, each))
def stk (names : List Str) (z : Int) : List (Str × Int) := (names.map fun y5 => (y5, (1 : Int))) ++ [(zz, z)]
section
variable {names : List Str} {each z : Int}
theorem zz_not (hN : Nm names (names.length : Int)) : zz ∉ names := fun h => wd_zzz (hN.wd _ h) (by decide +kernel) rfl
theorem stk_keys : (stk names z).map Prod.fst = names ++ [zz] := by
  unfold stk
  rw [List.map_append, List.map_map]
  congr 1
  exact (List.map_congr_left fun _ _ => rfl).trans (List.map_id _)
theorem dmk_id {β : Type} : ∀ {kvs : List (Str × β)}, (kvs.map Prod.fst).Nodup → dmk kvs = kvs := by
  intro kvs h
  unfold dmk
  have go : ∀ (zs d : List (Str × β)), ((d ++ zs).map Prod.fst).Nodup → zs.foldl (fun d p => dput d p.1 p.2) d = d ++ zs := fun zs => by
    induction zs with
    | nil => intro d _; simp
    | cons p zs ih =>
      intro d hd
      rw [List.foldl_cons, dput_new]
      · rw [show (d ++ [(p.1, p.2)]) = d ++ [p] from rfl, ih _ (by rw [List.append_assoc]; exact hd), List.append_assoc]; rfl
      · rw [List.map_append, List.nodup_append] at hd
        exact fun q => hd.2.2 p.1 q p.1 List.mem_cons_self rfl
  exact go kvs [] h
theorem there_ok (hN : Nm names (names.length : Int)) (hl : names.length ≤ 12) : o_pieces_there (stk names z) ∧ v_pieces_there (stk names z) = stk names z := by
  refine ⟨⟨by show _ < 16777216; unfold stk; rw [List.length_append, List.length_map]; simp; omega, fun _ _ => trivial, trivial⟩, ?_⟩
  show dmk ((stk names z).map fun y1 => (y1.1, y1.2)) = _
  rw [(List.map_congr_left fun _ _ => rfl : (stk names z).map (fun y1 => (y1.1, y1.2)) = (stk names z).map fun y => y), List.map_id']
  refine dmk_id ?_
  rw [stk_keys]
  exact List.nodup_append.mpr ⟨hN.nd, List.pairwise_singleton _ _, fun x hx y hy e => zz_not hN (by rw [← List.mem_singleton.mp hy, ← e]; exact hx)⟩
theorem there_at (hN : Nm names (names.length : Int)) {k : Int} (h0 : 0 ≤ k) (h1 : k < names.length) : dgd (stk names z) (gt names k) 0 = 1 := by
  have : dget (stk names z) (gt names k) = some 1 := by
    refine dget_in ?_ ?_
    · rw [stk_keys]
      exact List.nodup_append.mpr ⟨hN.nd, List.pairwise_singleton _ _, fun x hx y hy e => zz_not hN (by rw [← List.mem_singleton.mp hy, ← e]; exact hx)⟩
    · exact List.mem_append_left _ (List.mem_map.mpr ⟨_, gt_mem h0 h1, rfl⟩)
  unfold dgd; rw [this]; rfl
theorem there_z (hN : Nm names (names.length : Int)) : dgd (stk names z) zz 0 = z := by
  have : dget (stk names z) zz = some z := by
    refine dget_in ?_ ?_
    · rw [stk_keys]
      exact List.nodup_append.mpr ⟨hN.nd, List.pairwise_singleton _ _, fun x hx y hy e => zz_not hN (by rw [← List.mem_singleton.mp hy, ← e]; exact hx)⟩
    · exact List.mem_append_right _ List.mem_cons_self
  unfold dgd; rw [this]; rfl
/-- what is needed -/
structure Nd (names : List Str) (each : Int) (pre : List Int) (d : List (Str × Int)) : Prop where
  nd : (d.map Prod.fst).Nodup
  z : dget d zz = if pre = [] then none else some ((pre.length : Int) * each)
  nk : ∀ k : Int, 0 ≤ k → k < names.length → dget d (gt names k) = if k ∈ pre then some 1 else none
  ks : ∀ x ∈ d.map Prod.fst, x = zz ∨ ∃ k ∈ pre, x = gt names k
  len : d.length ≤ 2 * pre.length
theorem dput_keys {β : Type} {d : List (Str × β)} {k : Str} {v : β} : (dput d k v).map Prod.fst = if k ∈ d.map Prod.fst then d.map Prod.fst else d.map Prod.fst ++ [k] := by
  by_cases h : k ∈ d.map Prod.fst
  · rw [if_pos h]
    unfold dput
    rw [if_pos]
    · rw [List.map_map]
      refine List.map_congr_left fun p _ => ?_
      show (if p.1 = k then (p.1, v) else p).1 = p.1
      by_cases q : p.1 = k
      · rw [if_pos q]
      · rw [if_neg q]
    · obtain ⟨p, hp, e⟩ := List.mem_map.mp h
      exact List.any_eq_true.mpr ⟨p, hp, decide_eq_true e⟩
  · rw [if_neg h, dput_new h, List.map_append]; rfl
theorem dput_nd {β : Type} {d : List (Str × β)} {k : Str} {v : β} (h : (d.map Prod.fst).Nodup) : ((dput d k v).map Prod.fst).Nodup := by
  rw [dput_keys]
  by_cases q : k ∈ d.map Prod.fst
  · rw [if_pos q]; exact h
  · rw [if_neg q]
    exact List.nodup_append.mpr ⟨h, List.pairwise_singleton _ _, fun x hx y hy e => q (by rw [← List.mem_singleton.mp hy, ← e]; exact hx)⟩
theorem dput_mem {β : Type} {d : List (Str × β)} {k x : Str} {v : β} (h : x ∈ (dput d k v).map Prod.fst) : x = k ∨ x ∈ d.map Prod.fst := by
  rw [dput_keys] at h
  by_cases q : k ∈ d.map Prod.fst
  · rw [if_pos q] at h; exact .inr h
  · rw [if_neg q] at h
    rcases List.mem_append.mp h with h | h
    · exact .inr h
    · exact .inl (List.mem_singleton.mp h)
theorem dput_len {β : Type} {d : List (Str × β)} {k : Str} {v : β} : (dput d k v).length ≤ d.length + 1 := by
  have := congrArg List.length (dput_keys (d := d) (k := k) (v := v))
  rw [List.length_map] at this
  by_cases q : k ∈ d.map Prod.fst
  · rw [if_pos q, List.length_map] at this; omega
  · rw [if_neg q, List.length_append, List.length_map] at this; simp at this; omega
theorem needed_ok (hN : Nm names (names.length : Int)) {C : List Int} (hC : C.Nodup) (hr : ∀ k ∈ C, 0 ≤ k ∧ k < names.length) (hl : C.length ≤ 12) : ∀ P : List (Str × Int) → Prop, (∀ d, Nd names each C d → P d) → o_pieces_needed (ords names each) C ∧ P (v_pieces_needed (ords names each) C) := by
  intro P hPP
  unfold o_pieces_needed v_pieces_needed
  refine both (· = ([] : List (Str × Int))) rfl ?_
  rintro _ rfl
  refine bloopC (fun pre (s : List (Str × Int)) => Nd names each pre s) ⟨List.nodup_nil, rfl, fun _ _ _ => rfl, fun _ h => absurd h List.not_mem_nil, Nat.zero_le _⟩ ?_ fun s h => ⟨trivial, hPP _ h⟩
  rintro pre k post d e hd P hP
  have hk : k ∈ C := e ▸ List.mem_append_right _ List.mem_cons_self
  obtain ⟨k0, k1⟩ := hr k hk
  have hkp : k ∉ pre := fun q => by
    rw [e, List.nodup_append] at hC
    exact hC.2.2 k q k List.mem_cons_self rfl
  have hpl : pre.length < 12 := by
    have := congrArg List.length e
    rw [List.length_append, List.length_cons] at this
    omega
  have hg : gt (ords names each) k = ((gt names k, 1), (zz, each)) := by
    unfold ords
    rw [gt_get k0 (by rw [List.length_map]; omega), List.getElem_map, gt_get k0 (by omega)]
  have hx : okx (ords names each) k := okx_of k0 (by unfold ords; rw [List.length_map]; exact k1)
  rw [hg]
  have hzn : zz ≠ gt names k := fun q => zz_not hN (by rw [q]; exact gt_mem k0 k1)
  have n1 : dgd d (gt names k) 0 = 0 := by
    unfold dgd; rw [hd.nk k k0 k1, if_neg hkp]; rfl
  have n2 : ∀ v, dgd (dput d (gt names k) v) zz 0 = (pre.length : Int) * each := fun v => by
    unfold dgd
    rw [dget_put, if_neg hzn, hd.z]
    by_cases q : pre = []
    · rw [if_pos q, q]; simp
    · rw [if_neg q]; rfl
  have hlen := hd.len
  have hl1 := dput_len (d := d) (k := gt names k) (v := dgd d (gt names k) 0 + 1)
  refine band hx (band hx ?_)
  have hw : (okL (fun (s5 : (List (Str × Int))) (y6 : (Str × Int)) => lt (dput s5 y6.1 ((dgd s5 y6.1 (0 : Int)) + y6.2)) fun needed_7 => needed_7) (fun (s5 : (List (Str × Int))) (y6 : (Str × Int)) => (oks s5) ∧ lt (dput s5 y6.1 ((dgd s5 y6.1 (0 : Int)) + y6.2)) fun needed_7 => True) d ([(gt names k, 1), (zz, each)])) :=
    ⟨⟨by show d.length < 16777216; omega, trivial⟩, ⟨by show (dput d (gt names k) (dgd d (gt names k) 0 + 1)).length < 16777216; omega, trivial⟩, trivial⟩
  refine band hw (both (· = dput (dput d (gt names k) (dgd d (gt names k) 0 + 1)) zz (dgd (dput d (gt names k) (dgd d (gt names k) 0 + 1)) zz 0 + each)) rfl ?_)
  rintro _ rfl
  refine ⟨trivial, hP _ ?_⟩
  rw [n1, n2]
  refine ⟨dput_nd (dput_nd hd.nd), ?_, fun j j0 j1 => ?_, fun x hx => ?_, ?_⟩
  · rw [dget_put, if_pos rfl, if_neg (by simp)]
    congr 1
    rw [List.length_append, List.length_singleton, Int.natCast_add, Int.add_mul]; simp
  · have hjz : gt names j ≠ zz := fun q => zz_not hN (by rw [← q]; exact gt_mem j0 j1)
    rw [dget_put, if_neg hjz, dget_put]
    by_cases q : j = k
    · rw [if_pos (by rw [q]), if_pos (by rw [q]; exact List.mem_append_right _ List.mem_cons_self)]; rfl
    · rw [if_neg fun z => q (nm_inj hN j0 j1 k0 k1 z), hd.nk j j0 j1]
      by_cases q2 : j ∈ pre
      · rw [if_pos q2, if_pos (List.mem_append_left _ q2)]
      · rw [if_neg q2, if_neg]
        intro z
        rcases List.mem_append.mp z with z | z
        · exact q2 z
        · exact q (List.mem_singleton.mp z)
  · rcases dput_mem hx with h | h
    · exact .inl h
    · rcases dput_mem h with h | h
      · exact .inr ⟨k, List.mem_append_right _ List.mem_cons_self, h⟩
      · rcases hd.ks x h with h | ⟨j, hj, h⟩
        · exact .inl h
        · exact .inr ⟨j, List.mem_append_left _ hj, h⟩
  · have h2 := dput_len (d := dput d (gt names k) (0 + 1)) (k := zz) (v := (pre.length : Int) * each + each)
    have h3 := dput_len (d := d) (k := gt names k) (v := (0 : Int) + 1)
    rw [List.length_append, List.length_singleton]
    omega
theorem too_ok {m : Nat} {spare : Int} (hN : Nm names (names.length : Int)) (hnl : names.length ≤ 12) (hs0 : 0 ≤ spare) (hs1 : spare < each) {C : List Int} (hC : C.Nodup) (hr : ∀ k ∈ C, 0 ≤ k ∧ k < names.length) : o_too_few (stk names ((m : Int) * each + spare)) (ords names each) C ∧ v_too_few (stk names ((m : Int) * each + spare)) (ords names each) C = if m < C.length then [zz] else [] := by
  have hl : C.length ≤ 12 := by
    have := nodup_le (m := rng 0 (names.length : Int)) hC fun x hx => mem_rng.mpr (hr x hx)
    rw [len_rng] at this
    omega
  have key : ∀ P : List Str → Prop, P (if m < C.length then [zz] else []) → o_too_few (stk names ((m : Int) * each + spare)) (ords names each) C ∧ P (v_too_few (stk names ((m : Int) * each + spare)) (ords names each) C) := by
    intro P hPP
    unfold o_too_few v_too_few
    have ht := there_ok (z := (m : Int) * each + spare) hN hnl
    refine band ht.1 (both (· = stk names ((m : Int) * each + spare)) ht.2 ?_)
    rintro _ rfl
    have hn := needed_ok (each := each) hN hC hr hl (fun d => Nd names each C d) fun d h => h
    refine band hn.1 (both (fun d => Nd names each C d) hn.2 fun d hd => ?_)
    have hdl := hd.len
    have hsl : (srt leS (d.map Prod.fst)).length = d.length := by rw [(srt_perm leS _).length_eq, List.length_map]
    have hsome : ∀ x ∈ srt leS (d.map Prod.fst), (dget d x).isSome = true := fun x hx => by
      have hx := (srt_perm leS _).mem_iff.mp hx
      obtain ⟨p, hp, rfl⟩ := List.mem_map.mp hx
      rw [dget_in hd.nd (show (p.1, p.2) ∈ d from hp)]; rfl
    refine band (by rw [List.length_map]; omega) (band (by show _ < 16777216; omega) (band (fun x hx => ⟨hsome x hx, fun _ => trivial⟩) ⟨trivial, ?_⟩))
    rw [List.map_id']
    have hf : ∀ x ∈ srt leS (d.map Prod.fst), decide (dgd (stk names ((m : Int) * each + spare)) x 0 < dgv d x) = (decide (x = zz) && decide (m < C.length)) := fun x hx => by
      have hx := (srt_perm leS _).mem_iff.mp hx
      rcases hd.ks x hx with rfl | ⟨k, hk, rfl⟩
      · have hne : C ≠ [] := fun q => by
          have h1 := hsome zz ((srt_perm leS _).mem_iff.mpr hx)
          rw [hd.z, if_pos q] at h1
          exact absurd h1 (by decide)
        have hv : dgv d zz = (C.length : Int) * each := by unfold dgv; rw [hd.z, if_neg hne]; rfl
        rw [there_z hN, hv, decide_eq_true rfl, Bool.true_and]
        by_cases q : m < C.length
        · rw [decide_eq_true q]
          refine decide_eq_true ?_
          have h1 : ((m : Int) + 1) * each ≤ (C.length : Int) * each := Int.mul_le_mul_of_nonneg_right (by omega) (by omega)
          rw [Int.add_mul, Int.one_mul] at h1
          omega
        · rw [decide_eq_false q]
          refine decide_eq_false ?_
          have h1 : (C.length : Int) * each ≤ (m : Int) * each := Int.mul_le_mul_of_nonneg_right (by omega) (by omega)
          omega
      · obtain ⟨k0, k1⟩ := hr k hk
        have hkz : gt names k ≠ zz := fun q => zz_not hN (by rw [← q]; exact gt_mem k0 k1)
        have hv : dgv d (gt names k) = 1 := by unfold dgv; rw [hd.nk k k0 k1, if_pos hk]; rfl
        rw [there_at hN k0 k1, hv, decide_eq_false hkz]; rfl
    rw [List.filter_congr hf]
    by_cases q : m < C.length
    · rw [if_pos q] at hPP
      rw [decide_eq_true q]
      have hne : C ≠ [] := fun z => by rw [z] at q; exact absurd q (Nat.not_lt_zero _)
      have hmem : zz ∈ srt leS (d.map Prod.fst) := by
        refine (srt_perm leS _).mem_iff.mpr ?_
        refine Classical.byContradiction fun h => ?_
        have := dhas_not h
        unfold dhas at this
        rw [hd.z, if_neg hne] at this
        exact absurd this (by simp)
      have hnd : (srt leS (d.map Prod.fst)).Nodup := (srt_perm leS _).nodup_iff.mpr hd.nd
      have e : (srt leS (d.map Prod.fst)).filter (fun x => decide (x = zz) && true) = [zz] := by
        obtain ⟨a, b, ab⟩ := List.append_of_mem hmem
        rw [ab, List.nodup_append] at hnd
        have ha : ∀ x ∈ a, ¬ x = zz := fun x hx q => hnd.2.2 x hx zz List.mem_cons_self q
        have hb : ∀ x ∈ b, ¬ x = zz := fun x hx q => (List.nodup_cons.mp hnd.2.1).1 (q ▸ hx)
        rw [ab, List.filter_append, List.filter_cons_of_pos (by simp), List.filter_eq_nil_iff.mpr (fun x hx => by simp [ha x hx]), List.filter_eq_nil_iff.mpr (fun x hx => by simp [hb x hx])]
        rfl
      rw [e]; exact hPP
    · rw [if_neg q] at hPP
      rw [decide_eq_false q, List.filter_eq_nil_iff.mpr (fun x hx => by simp)]
      exact hPP
  exact key (fun z => z = _) rfl
theorem fits_ok {m : Nat} {spare : Int} (hN : Nm names (names.length : Int)) (hnl : names.length ≤ 12) (hs0 : 0 ≤ spare) (hs1 : spare < each) {C : List Int} (hC : C.Nodup) (hr : ∀ k ∈ C, 0 ≤ k ∧ k < names.length) : o_fits (stk names ((m : Int) * each + spare)) (ords names each) C ∧ v_fits (stk names ((m : Int) * each + spare)) (ords names each) C = decide (C.length ≤ m) := by
  have h := too_ok (m := m) hN hnl hs0 hs1 hC hr
  refine ⟨⟨h.1, trivial⟩, ?_⟩
  unfold v_fits
  rw [h.2]
  by_cases q : m < C.length
  · rw [if_pos q, decide_eq_false (by omega : ¬ C.length ≤ m)]; rfl
  · rw [if_neg q, decide_eq_true (by omega : C.length ≤ m)]; rfl
end
end K24

set_option maxHeartbeats 2000000
/-! K24L: the sets that fit. -/
namespace K24
open PySem ZZ L2
/-- all the rising lists that go on behind C, of m things at most -/
def sf (n : Int) (m : Nat) : Nat → List Int → Int → List (List Int)
  | 0, _, _ => []
  | f + 1, C, st => C :: ((rng st n).map fun at' => if C.length + 1 ≤ m then sf n m f (C ++ [at']) (at' + 1) else []).flatten
theorem rng_split2 {i n : Int} {pre post : List Int} {y : Int} (e : rng i n = pre ++ y :: post) : i ≤ y ∧ y < n ∧ i + pre.length = y := by
  have hlen := congrArg List.length e
  rw [len_rng, List.length_append, List.length_cons] at hlen
  have h : (rng i n)[pre.length]? = some (i + pre.length) := at_rng (by omega)
  rw [e, List.getElem?_append_right (Nat.le_refl _), Nat.sub_self] at h
  have := Option.some.inj h
  omega
section
variable {names : List Str} {each spare : Int} {m : Nat}
theorem sets_ok (hN : Nm names (names.length : Int)) (hnl : names.length ≤ 12) (hs0 : 0 ≤ spare) (hs1 : spare < each) : ∀ (f : Nat) (C : List Int) (st : Int), C.Nodup → (∀ k ∈ C, 0 ≤ k ∧ k < st) → 0 ≤ st → st ≤ names.length → (if C = [] then st = 0 else gt C (-1) + 1 = st) → (names.length : Int) + 1 ≤ f + st →
    o_sets_from f (stk names ((m : Int) * each + spare)) (ords names each) C ∧ v_sets_from f (stk names ((m : Int) * each + spare)) (ords names each) C = sf names.length m f C st ∧ (sf names.length m f C st).length ≤ 2 ^ ((names.length : Int) - st).toNat
  | 0, C, st, _, _, _, _, _, h => absurd h (by omega)
  | f + 1, C, st, hC, hr, h0, h1, hst, hf => by
    have hol : (ords names each).length = names.length := by unfold ords; rw [List.length_map]
    have hcl : C.length ≤ 12 := by
      have := nodup_le (m := rng 0 (names.length : Int)) hC fun x hx => mem_rng.mpr ⟨(hr x hx).1, by have := (hr x hx).2; omega⟩
      rw [len_rng] at this
      omega
    have hlater : o_later_places (ords names each) C ∧ v_later_places (ords names each) C = rng st names.length := by
      unfold o_later_places v_later_places
      rw [hol]
      by_cases q : C = []
      · rw [if_pos q] at hst
        subst q hst
        exact ⟨⟨fun _ => ⟨okr_lit (by omega) (by omega) (by omega) (by omega), by show (names.length : Int) ≤ 16777216; omega, trivial⟩, (fun h => nomatch h)⟩, rfl⟩
      · rw [if_neg q] at hst
        have hpos : 0 < C.length := List.length_pos_iff.mpr q
        rw [decide_eq_false (by omega), hst]
        exact ⟨⟨(fun h => nomatch h), fun _ => ⟨⟨by omega, by omega⟩, okr_lit (by omega) (by omega) (by omega) (by omega), by omega, trivial⟩⟩, rfl⟩
    have key : ∀ P : List (List Int) → Prop, (∀ z, z = sf names.length m (f + 1) C st ∧ z.length ≤ 2 ^ ((names.length : Int) - st).toNat → P z) → o_sets_from (f + 1) (stk names ((m : Int) * each + spare)) (ords names each) C ∧ P (v_sets_from (f + 1) (stk names ((m : Int) * each + spare)) (ords names each) C) := by
      intro P hP
      rw [o_sets_from, v_sets_from]
      refine both (· = [C]) rfl ?_
      rintro _ rfl
      refine band hlater.1 ?_
      rw [hlater.2]
      refine bloopC (s := [C]) (fun pre (s : List (List Int)) => s = C :: (pre.map fun at' => if C.length + 1 ≤ m then sf names.length m f (C ++ [at']) (at' + 1) else []).flatten ∧ s.length + 2 ^ ((names.length : Int) - st - pre.length).toNat ≤ 2 ^ ((names.length : Int) - st).toNat + 1) ⟨rfl, by simp; omega⟩ ?_ fun s h => ⟨trivial, hP s ⟨h.1, ?_⟩⟩
      · rintro pre y post s e ⟨rfl, hs⟩ P hP2
        obtain ⟨y0, y1, y2⟩ := rng_split2 e
        have hyC : y ∉ C := fun q => by have := (hr y q).2; omega
        have hnd : (C ++ [y]).Nodup := List.nodup_append.mpr ⟨hC, List.pairwise_singleton _ _, fun x hx z hz q => hyC (by rw [← List.mem_singleton.mp hz, ← q]; exact hx)⟩
        have hr2 : ∀ k ∈ C ++ [y], 0 ≤ k ∧ k < y + 1 := fun k hk => by
          rcases List.mem_append.mp hk with hk | hk
          · have := hr k hk; omega
          · rw [List.mem_singleton.mp hk]; omega
        have hlast : gt (C ++ [y]) (-1) = y := by
          unfold gt
          rw [if_neg (by decide), List.length_append, List.length_singleton]
          rw [show (-1 + ((C.length + 1 : Nat) : Int)).toNat = C.length by omega, List.getD_eq_getElem?_getD, List.getElem?_append_right (Nat.le_refl _), Nat.sub_self]; rfl
        have ih := sets_ok hN hnl hs0 hs1 f (C ++ [y]) (y + 1) hnd hr2 (by omega) (by omega) (by rw [if_neg (by simp), hlast]) (by omega)
        have hfit := fits_ok (m := m) hN hnl hs0 hs1 hnd (fun k hk => by have := hr2 k hk; omega)
        have hpow : ∃ q : Nat, 2 ^ ((names.length : Int) - st - pre.length).toNat = 2 * q ∧ 2 ^ ((names.length : Int) - st - (pre ++ [y]).length).toNat = q ∧ 2 ^ ((names.length : Int) - (y + 1)).toNat = q := by
          refine ⟨2 ^ ((names.length : Int) - (y + 1)).toNat, ?_, ?_, rfl⟩
          · rw [show ((names.length : Int) - st - pre.length).toNat = ((names.length : Int) - (y + 1)).toNat + 1 by omega, Nat.pow_succ, Nat.mul_comm]
          · congr 1
            rw [List.length_append, List.length_singleton]
            omega
        obtain ⟨q, p1, p2, p3⟩ := hpow
        have hcap : 2 ^ ((names.length : Int) - st).toNat ≤ 4096 := by
          have : ((names.length : Int) - st).toNat ≤ 12 := by omega
          exact Nat.pow_le_pow_right (by decide) this
        rw [p1] at hs
        rw [p3] at ih
        refine band (by show C.length + 1 ≤ 16777216; omega) (both (· = C ++ [y]) rfl ?_)
        rintro _ rfl
        have hle : (C ++ [y]).length = C.length + 1 := by simp
        have hone : 1 ≤ q := by rw [← p3]; exact Nat.one_le_two_pow
        refine band hfit.1 ?_
        rw [hfit.2, hle]
        refine band ⟨fun _ => ⟨ih.1, by rw [ih.2.1]; omega, trivial⟩, fun _ => trivial⟩ (both (fun s6 => s6 = (C :: (pre.map fun at' => if C.length + 1 ≤ m then sf names.length m f (C ++ [at']) (at' + 1) else []).flatten) ++ (if C.length + 1 ≤ m then sf names.length m f (C ++ [y]) (y + 1) else [])) ?_ ?_)
        · by_cases hm : C.length + 1 ≤ m
          · rw [decide_eq_true hm, if_pos hm]
            show _ ++ v_sets_from f _ _ _ = _
            rw [ih.2.1]
          · rw [decide_eq_false hm, if_neg hm, List.append_nil]; rfl
        · rintro _ rfl
          refine ⟨trivial, hP2 _ ⟨?_, ?_⟩⟩
          · rw [List.map_append, List.flatten_append]
            simp
          · rw [p2, List.length_append]
            by_cases hm : C.length + 1 ≤ m
            · rw [if_pos hm]; omega
            · rw [if_neg hm]; simp only [List.length_nil]; omega
      · have h2 := h.2
        rw [len_rng] at h2
        have : 1 ≤ 2 ^ ((names.length : Int) - st - ((names.length : Int) - st).toNat).toNat := Nat.one_le_two_pow
        omega
    have k := key (fun z => z = sf names.length m (f + 1) C st ∧ z.length ≤ 2 ^ ((names.length : Int) - st).toNat) fun z h => h
    exact ⟨k.1, k.2.1, by rw [← k.2.1]; exact k.2.2⟩
theorem fitting_ok (hN : Nm names (names.length : Int)) (hnl : names.length ≤ 6) (hs0 : 0 ≤ spare) (hs1 : spare < each) : o_fitting_sets (stk names ((m : Int) * each + spare)) (ords names each) ∧ v_fitting_sets (stk names ((m : Int) * each + spare)) (ords names each) = sf names.length m 9 [] 0 := by
  have h := sets_ok (m := m) hN (by omega) hs0 hs1 9 [] 0 List.nodup_nil (fun _ h => absurd h List.not_mem_nil) (by decide) (by omega) (by rw [if_pos rfl]) (by omega)
  exact ⟨⟨h.1, trivial⟩, h.2.1⟩
end
end K24

set_option maxHeartbeats 2000000
/-! K24M: the best of the sets. -/
namespace K24
open PySem ZZ L2
/-! ### the first of the best -/
structure Lt' {ρ : Type} (L : ρ → ρ → Bool) : Prop where
  irr : ∀ x, L x x = false
  tr : ∀ x y z, L x y = true → L y z = true → L x z = true
  nt : ∀ x y z, L x y = true → L x z = false → L z y = true
theorem lt_int : Lt' (fun a b : Int => decide (a < b)) := ⟨fun x => by simp, fun x y z h1 h2 => by simp at *; omega, fun x y z h1 h2 => by simp at *; omega⟩
theorem ltp_iff {x y : Int × Int} : ltp x y = true ↔ x.1 < y.1 ∨ (x.1 = y.1 ∧ x.2 < y.2) := by
  unfold ltp
  rw [Bool.or_eq_true, Bool.and_eq_true, decide_eq_true_eq, decide_eq_true_eq, decide_eq_true_eq]
theorem ltp_iffn {x y : Int × Int} : ltp x y = false ↔ ¬ (x.1 < y.1 ∨ (x.1 = y.1 ∧ x.2 < y.2)) := by
  rw [← ltp_iff]; simp
theorem lt_ltp : Lt' ltp := ⟨fun x => ltp_iffn.mpr (by omega), fun x y z h1 h2 => by rw [ltp_iff] at *; omega, fun x y z h1 h2 => by rw [ltp_iff] at *; rw [ltp_iffn] at h2; omega⟩
structure Best {ρ : Type} [Inhabited ρ] (L : ρ → ρ → Bool) (r : List ρ) (b : Int) : Prop where
  lo : 0 ≤ b
  hi : b < r.length
  max : ∀ j : Nat, j < r.length → L (gt r b) (gt r j) = false
  fst : ∀ j : Nat, (j : Int) < b → L (gt r j) (gt r b) = true
theorem enm_split {α : Type} {r : List α} {pre post : List (Int × α)} {y : Int × α} (e : enm r = pre ++ y :: post) : y.1 = (pre.length : Int) ∧ r[pre.length]? = some y.2 := by
  have hl : pre.length < r.length := by
    have := congrArg List.length e
    rw [len_enm, List.length_append, List.length_cons] at this
    omega
  have h := at_enm (List.getElem?_eq_getElem hl)
  rw [e, List.getElem?_append_right (Nat.le_refl _), Nat.sub_self] at h
  have h := Option.some.inj (show some y = _ from h)
  rw [h]
  exact ⟨rfl, List.getElem?_eq_getElem hl⟩
theorem fob_go {ρ γ : Type} [Inhabited ρ] {L : ρ → ρ → Bool} (hL : Lt' L) {r : List ρ} (hr : r ≠ []) {okk : Int → Prop} {kk : Int → γ} {P : γ → Prop} (fin : ∀ b, Best L r b → okk b ∧ P (kk b)) :
    (okL (fun (s2 : Int) (y3 : Int × ρ) => lt (cond (L (gt r s2) y3.2) (lt y3.1 fun b => b) s2) fun s4 => s4) (fun (s2 : Int) (y3 : Int × ρ) => (okx r s2) ∧ okI (L (gt r s2) y3.2) (lt y3.1 fun b => True) True ∧ lt (cond (L (gt r s2) y3.2) (lt y3.1 fun b => b) s2) fun s4 => True) 0 (enm r) ∧
      lt (List.foldl (fun (s2 : Int) (y3 : Int × ρ) => lt (cond (L (gt r s2) y3.2) (lt y3.1 fun b => b) s2) fun s4 => s4) 0 (enm r)) okk) ∧ P (lt (List.foldl (fun (s2 : Int) (y3 : Int × ρ) => lt (cond (L (gt r s2) y3.2) (lt y3.1 fun b => b) s2) fun s4 => s4) 0 (enm r)) kk) := by
  have hpos : 0 < r.length := List.length_pos_iff.mpr hr
  refine bloopC (fun pre (b : Int) => 0 ≤ b ∧ b < r.length ∧ (∀ j : Nat, j < pre.length → L (gt r b) (gt r j) = false) ∧ ∀ j : Nat, (j : Int) < b → L (gt r j) (gt r b) = true) ⟨Int.le_refl _, by omega, fun j h => absurd h (Nat.not_lt_zero _), fun j h => absurd h (by omega)⟩ ?_ fun b hb => fin b ⟨hb.1, hb.2.1, fun j hj => hb.2.2.1 j (by rw [len_enm]; exact hj), hb.2.2.2⟩
  rintro pre ⟨y, x⟩ post b e ⟨b0, b1, b2, b3⟩ P hP
  obtain ⟨e1, e2⟩ := enm_split e
  dsimp only at e1 e2
  subst e1
  have hx : gt r (pre.length : Int) = x := gt_some e2
  have hlt := (List.getElem?_eq_some_iff.mp e2).1
  refine ⟨⟨okx_of b0 b1, ⟨fun _ => trivial, fun _ => trivial⟩, trivial⟩, hP _ ?_⟩
  rw [lt_def]
  cases q : L (gt r b) x with
  | true =>
    show 0 ≤ (pre.length : Int) ∧ (pre.length : Int) < r.length ∧ _
    refine ⟨by omega, by omega, fun j hj => ?_, fun j hj => ?_⟩
    · rw [List.length_append, List.length_singleton] at hj
      show L (gt r (pre.length : Int)) (gt r j) = false
      rw [hx]
      by_cases hj2 : j = pre.length
      · subst hj2; rw [hx]; exact hL.irr _
      · have h1 := b2 j (by omega)
        cases q2 : L x (gt r j) with
        | false => rfl
        | true => rw [hL.tr _ _ _ q q2] at h1; exact absurd h1 (by decide)
    · show L (gt r j) (gt r (pre.length : Int)) = true
      have hj : (j : Int) < (pre.length : Int) := hj
      rw [hx]
      exact hL.nt _ _ _ q (b2 j (by omega))
  | false =>
    show 0 ≤ b ∧ b < r.length ∧ _
    refine ⟨b0, b1, fun j hj => ?_, b3⟩
    rw [List.length_append, List.length_singleton] at hj
    by_cases hj2 : j = pre.length
    · subst hj2; show L (gt r b) (gt r _) = false; rw [hx]; exact q
    · exact b2 j (by omega)
theorem best_at {ρ : Type} [Inhabited ρ] {L : ρ → ρ → Bool} {r : List ρ} {b : Int} (h : Best L r b) {i : Nat} (hi : i < r.length) (h1 : ∀ j : Nat, j < i → L (gt r j) (gt r i) = true) (h2 : ∀ j : Nat, i < j → j < r.length → L (gt r i) (gt r j) = false) : b = i := by
  obtain ⟨k, rfl⟩ : ∃ k : Nat, b = k := ⟨b.toNat, (Int.toNat_of_nonneg h.lo).symm⟩
  have hk := h.hi
  rcases Nat.lt_trichotomy k i with q | q | q
  · have := h1 k q
    rw [h.max i hi] at this
    exact absurd this (by decide)
  · rw [q]
  · have := h.fst i (by omega)
    rw [h2 k q (by omega)] at this
    exact absurd this (by decide)
/-! ### the enumeration, computed -/
def subs : List Int → List (List Int)
  | [] => [[]]
  | x :: l => subs l ++ (subs l).map (x :: ·)
theorem filter_subs (p : Int → Bool) : ∀ l : List Int, l.filter p ∈ subs l
  | [] => List.mem_cons_self
  | x :: l => by
    unfold subs
    cases h : p x with
    | true => rw [List.filter_cons_of_pos h]; exact List.mem_append_right _ (List.mem_map_of_mem (filter_subs p l))
    | false => rw [List.filter_cons_of_neg (by simp [h])]; exact List.mem_append_left _ (filter_subs p l)
def lexlt : List Int → List Int → Bool
  | [], [] => false
  | [], _ :: _ => true
  | _ :: _, [] => false
  | a :: l, b :: m => decide (a < b) || (decide (a = b) && lexlt l m)
theorem lexlt_diff : ∀ {C D : List Int}, lexlt C D = true → C.length = D.length → ∃ pre c d l m, C = pre ++ c :: l ∧ D = pre ++ d :: m ∧ c < d
  | [], [], h, _ => absurd h (by decide)
  | [], _ :: _, _, h => absurd h (by simp)
  | _ :: _, [], h, _ => absurd h (by simp [lexlt])
  | a :: l, b :: m, h, hl => by
    unfold lexlt at h
    rw [Bool.or_eq_true, Bool.and_eq_true, decide_eq_true_eq, decide_eq_true_eq] at h
    rcases h with h | ⟨rfl, h⟩
    · exact ⟨[], a, b, l, m, rfl, rfl, h⟩
    · obtain ⟨pre, c, d, l', m', h1, h2, h3⟩ := lexlt_diff h (by simpa using hl)
      exact ⟨a :: pre, c, d, l', m', by rw [h1]; rfl, by rw [h2]; rfl, h3⟩
def Fct (n m : Nat) : Prop := (∀ C ∈ sf n m 9 [] 0, C.Pairwise (· < ·) ∧ (∀ k ∈ C, 0 ≤ k ∧ k < n) ∧ C.length ≤ m) ∧ (sf n m 9 [] 0).Pairwise (fun C D => lexlt C D = true) ∧ (∀ C ∈ subs (rng 0 n), C.length ≤ m → C ∈ sf n m 9 [] 0) ∧ (sf n m 9 [] 0)[m]? = some (rng 0 m) ∧ (∀ j ∈ List.range m, (gt (sf n m 9 [] 0) (j : Nat)).length < m) ∧ (sf n m 9 [] 0).length ≤ 64
instance {n m : Nat} : Decidable (Fct n m) := by unfold Fct; infer_instance
theorem fct_all : ∀ n ∈ List.range 7, ∀ m ∈ List.range 7, m ≤ n → Fct n m := by decide +kernel
end K24

set_option maxHeartbeats 2000000
/-! K24N: the best value. -/
namespace K24
open PySem ZZ L2
theorem sum_mono {l : List Int} {f g : Int → Int} (h : ∀ k ∈ l, f k ≤ g k) : (l.map f).sum ≤ (l.map g).sum ∧ ((l.map f).sum = (l.map g).sum → ∀ k ∈ l, f k = g k) := by
  induction l with
  | nil => exact ⟨Int.le_refl _, fun _ k hk => absurd hk List.not_mem_nil⟩
  | cons a l ih =>
    obtain ⟨h1, h2⟩ := ih fun k hk => h k (List.mem_cons_of_mem _ hk)
    have h3 := h a List.mem_cons_self
    rw [List.map_cons, List.map_cons, List.sum_cons, List.sum_cons]
    refine ⟨by omega, fun e k hk => ?_⟩
    rcases List.mem_cons.mp hk with rfl | hk
    · omega
    · exact h2 (by omega) k hk
theorem sum_filter {p : Int → Bool} {h : Int → Int} : ∀ {l : List Int}, ((l.filter p).map h).sum = (l.map fun k => if p k = true then h k else 0).sum
  | [] => rfl
  | a :: l => by
    rw [List.map_cons, List.sum_cons, ← sum_filter]
    by_cases q : p a = true
    · rw [List.filter_cons_of_pos q, List.map_cons, List.sum_cons, if_pos q]
    · rw [List.filter_cons_of_neg q, if_neg q, Int.zero_add]
theorem ind_sum {n : Int} {C : List Int} (hn : C.Nodup) (hr : ∀ k ∈ C, 0 ≤ k ∧ k < n) (h : Int → Int) : (C.map h).sum = ((rng 0 n).map fun k => if k ∈ C then h k else 0).sum := by
  have hp : C.Perm ((rng 0 n).filter fun k => decide (k ∈ C)) := by
    refine (List.perm_ext_iff_of_nodup hn (List.Pairwise.filter _ rng_nd)).mpr fun k => ?_
    rw [List.mem_filter, mem_rng, decide_eq_true_eq]
    exact ⟨fun hk => ⟨hr k hk, hk⟩, fun hk => hk.2⟩
  rw [perm_sum (hp.map h), sum_filter]
  congr 1
  refine List.map_congr_left fun k _ => ?_
  by_cases q : k ∈ C
  · rw [if_pos q, if_pos (decide_eq_true q)]
  · rw [if_neg q, if_neg (by simp [q])]
theorem map_sub {C : List Int} {f : Int → Int} {μ : Int} : (C.map fun k => f k - μ).sum = (C.map f).sum - μ * C.length := by
  induction C with
  | nil => simp
  | cons a C ih =>
    rw [List.map_cons, List.map_cons, List.sum_cons, List.sum_cons, ih, List.length_cons, Int.natCast_add, Int.mul_add]
    simp; omega
theorem inc_nd {C : List Int} (h : C.Pairwise (· < ·)) : C.Nodup := h.imp fun {a b} h e => by omega
section
variable {vs order : List Int} {m : Nat}
/-- the best set -/
def top (order : List Int) (m : Nat) : List Int := srt leI (order.take m)
theorem top_perm : (top order m).Perm (order.take m) := srt_perm leI _
theorem top_inc (hF : Fall vs order) : (top order m).Pairwise (· < ·) := by
  have h1 := srt_sorted tot_leI (order.take m)
  have h2 : (top order m).Nodup := top_perm.nodup_iff.mpr (hF.nd.sublist (List.take_sublist _ _))
  exact (h1.and h2).imp fun {a b} h => by
    have := of_decide_eq_true h.1
    have := h.2
    omega
theorem top_in (hF : Fall vs order) {k : Int} (hk : k ∈ top order m) : 0 ≤ k ∧ k < vs.length := hF.rg k (List.mem_of_mem_take (top_perm.mem_iff.mp hk))
theorem top_len (hF : Fall vs order) (hm : m ≤ vs.length) : (top order m).length = m := by
  have h2 := hF.len
  rw [top_perm.length_eq, List.length_take]; omega
theorem top_sub (hF : Fall vs order) : top order m ∈ subs (rng 0 (vs.length : Int)) := by
  have e : top order m = (rng 0 (vs.length : Int)).filter fun k => decide (k ∈ top order m) := by
    refine sorted_one tot_leI ?_ ((top_inc hF).imp fun {a b} h => decide_eq_true (by omega)) (List.Pairwise.filter _ ?_)
    · refine (List.perm_ext_iff_of_nodup (inc_nd (top_inc hF)) (List.Pairwise.filter _ rng_nd)).mpr fun k => ?_
      rw [List.mem_filter, mem_rng, decide_eq_true_eq]
      exact ⟨fun hk => ⟨top_in hF hk, hk⟩, fun hk => hk.2⟩
    · unfold rng
      exact List.pairwise_map.mpr (List.pairwise_lt_range.imp fun {a b} h => decide_eq_true (by omega))
  rw [e]
  exact filter_subs _ _
/-- in the set: beats what is not -/
theorem top_beats (hF : Fall vs order) {x y : Int} (hx : x ∈ top order m) (hy : y ∉ top order m) (h0 : 0 ≤ y) (h1 : y < vs.length) : beats vs x y := by
  have hx := top_perm.mem_iff.mp hx
  have hyo : y ∈ order := (fall_perm hF).mem_iff.mpr (mem_rng.mpr ⟨h0, h1⟩)
  have hpw := hF.pw
  rw [← List.take_append_drop m order, List.pairwise_append] at hpw
  refine hpw.2.2 x hx y ?_
  rw [← List.take_append_drop m order] at hyo
  rcases List.mem_append.mp hyo with h | h
  · exact absurd (top_perm.mem_iff.mpr h) hy
  · exact h
/-- the value of a set -/
def val (vs C : List Int) : Int := (C.map fun k => gt vs k).sum
/-- the rank of a set against the best -/
theorem rank_le (hF : Fall vs order) (hm : m ≤ vs.length) {μ : Int} (h1 : ∀ k ∈ top order m, μ ≤ gt vs k) (h2 : ∀ k : Int, 0 ≤ k → k < vs.length → k ∉ top order m → gt vs k ≤ μ) {C : List Int} (hC : C.Nodup) (hr : ∀ k ∈ C, 0 ≤ k ∧ k < vs.length) :
    val vs C - μ * C.length ≤ val vs (top order m) - μ * m ∧ (val vs C - μ * C.length = val vs (top order m) - μ * m → ∀ k : Int, 0 ≤ k → k < vs.length → (k ∈ C ∧ k ∉ top order m ∨ k ∉ C ∧ k ∈ top order m) → gt vs k = μ) := by
  have e1 : val vs C - μ * C.length = ((rng 0 (vs.length : Int)).map fun k => if k ∈ C then gt vs k - μ else 0).sum := by
    rw [← ind_sum hC hr fun k => gt vs k - μ, map_sub]; rfl
  have e2 : val vs (top order m) - μ * m = ((rng 0 (vs.length : Int)).map fun k => if k ∈ top order m then gt vs k - μ else 0).sum := by
    rw [← ind_sum (inc_nd (top_inc hF)) (fun k hk => top_in hF hk) fun k => gt vs k - μ, map_sub, top_len hF hm]; rfl
  have hle : ∀ k ∈ rng 0 (vs.length : Int), (if k ∈ C then gt vs k - μ else 0) ≤ (if k ∈ top order m then gt vs k - μ else 0) := fun k hk => by
    rw [mem_rng] at hk
    by_cases q : k ∈ top order m
    · have := h1 k q
      rw [if_pos q]
      by_cases q2 : k ∈ C
      · rw [if_pos q2]; omega
      · rw [if_neg q2]; omega
    · have := h2 k hk.1 hk.2 q
      rw [if_neg q]
      by_cases q2 : k ∈ C
      · rw [if_pos q2]; omega
      · rw [if_neg q2]; omega
  have h := sum_mono hle
  rw [e1, e2]
  refine ⟨h.1, fun e k k0 k1 hk => ?_⟩
  have := h.2 e k (mem_rng.mpr ⟨k0, k1⟩)
  rcases hk with ⟨q1, q2⟩ | ⟨q1, q2⟩
  · rw [if_pos q1, if_neg q2] at this; omega
  · rw [if_neg q1, if_pos q2] at this; omega
theorem dec_eq {α : Type} [DecidableEq α] {x : α} : decide (x = x) = true := decide_eq_true rfl
/-- what is before the best is worse -/
theorem before (hF : Fall vs order) (hm : m ≤ vs.length) {μ : Int} (h0 : 0 < μ) (h1 : ∀ k ∈ top order m, μ ≤ gt vs k) (h2 : ∀ k : Int, 0 ≤ k → k < vs.length → k ∉ top order m → gt vs k ≤ μ) {C : List Int} (hC : C.Pairwise (· < ·)) (hr : ∀ k ∈ C, 0 ≤ k ∧ k < vs.length) (hl : C.length ≤ m) :
    ltp (val vs (top order m), -((top order m).length : Int)) (val vs C, -(C.length : Int)) = false ∧ (lexlt C (top order m) = true → ltp (val vs C, -(C.length : Int)) (val vs (top order m), -((top order m).length : Int)) = true) := by
  obtain ⟨r1, r2⟩ := rank_le hF hm h1 h2 (inc_nd hC) hr
  have htl := top_len hF hm
  rw [htl]
  rcases Nat.lt_or_ge C.length m with hlt | hge
  · have hv : val vs C < val vs (top order m) := by
      have : μ * ((C.length : Int) + 1) ≤ μ * m := Int.mul_le_mul_of_nonneg_left (by omega) (by omega)
      rw [Int.mul_add, Int.mul_one] at this
      omega
    exact ⟨ltp_iffn.mpr (by dsimp only; omega), fun _ => ltp_iff.mpr (.inl hv)⟩
  · have hcl : C.length = m := by omega
    rw [hcl] at r1 r2 ⊢
    have hv : val vs C ≤ val vs (top order m) := by omega
    refine ⟨ltp_iffn.mpr (by dsimp only; omega), fun hlex => ltp_iff.mpr (.inl ?_)⟩
    refine Classical.byContradiction fun hn => ?_
    have heq : val vs C = val vs (top order m) := by
      have hn : ¬ val vs C < val vs (top order m) := hn
      omega
    have r3 := r2 (by rw [heq])
    obtain ⟨pre, c, d, l, m', e1, e2, hcd⟩ := lexlt_diff hlex (by rw [hcl, htl])
    have ht := top_inc (m := m) hF
    have hcC : c ∈ C := by rw [e1]; exact List.mem_append_right _ List.mem_cons_self
    have hpc : ∀ x ∈ pre, x < c := fun x hx => by
      rw [e1, List.pairwise_append] at hC
      exact hC.2.2 x hx c List.mem_cons_self
    have htail : ∀ x ∈ top order m, x ∉ pre → d ≤ x := fun x hx hxp => by
      rw [e2] at hx ht
      rcases List.mem_append.mp hx with h | h
      · exact absurd h hxp
      · rcases List.mem_cons.mp h with rfl | h
        · exact Int.le_refl _
        · rw [List.pairwise_append] at ht
          have := (List.pairwise_cons.mp ht.2.1).1 x h
          omega
    have hct : c ∉ top order m := fun q => by
      have hcp : c ∉ pre := fun z => by have := hpc c z; omega
      have := htail c q hcp
      omega
    obtain ⟨x, hx, hxC⟩ : ∃ x ∈ top order m, x ∉ C := Classical.byContradiction fun hne => by
      have := nodup_le (l := c :: top order m) (m := C) (List.nodup_cons.mpr ⟨hct, inc_nd ht⟩) fun x hx => by
        rcases List.mem_cons.mp hx with rfl | hx
        · exact hcC
        · exact Classical.byContradiction fun q => hne ⟨x, hx, q⟩
      rw [List.length_cons, htl, hcl] at this
      omega
    have hxp : x ∉ pre := fun z => hxC (by rw [e1]; exact List.mem_append_left _ z)
    have hdx := htail x hx hxp
    have hc := hr c hcC
    have hx0 := top_in hF hx
    have v1 := r3 c hc.1 hc.2 (.inl ⟨hcC, hct⟩)
    have v2 := r3 x hx0.1 hx0.2 (.inr ⟨hxC, hx⟩)
    have hb := top_beats hF hx hct hc.1 hc.2
    unfold beats at hb
    omega
end
section
variable {names : List Str} {vs order : List Int} {each spare : Int} {m : Nat}
theorem fct_of {n m : Nat} (h1 : m ≤ n) (h2 : n ≤ 6) : Fct n m := fct_all n (List.mem_range.mpr (by omega)) m (List.mem_range.mpr (by omega)) h1
theorem most_ok (hN : Nm names (names.length : Int)) (hnl : names.length ≤ 6) (hm : m ≤ names.length) (hs0 : 0 ≤ spare) (hs1 : spare < each) : o_most_whole (stk names ((m : Int) * each + spare)) (ords names each) ∧ v_most_whole (stk names ((m : Int) * each + spare)) (ords names each) = rng 0 m := by
  have hf := fitting_ok (m := m) hN hnl hs0 hs1
  have F := fct_of hm hnl
  have key : ∀ P : List Int → Prop, P (rng 0 m) → o_most_whole (stk names ((m : Int) * each + spare)) (ords names each) ∧ P (v_most_whole (stk names ((m : Int) * each + spare)) (ords names each)) := by
    intro P hP
    unfold o_most_whole v_most_whole
    refine band hf.1 (both (· = sf names.length m 9 [] 0) hf.2 ?_)
    rintro _ rfl
    obtain ⟨f1, f2, f3, f4, f5, f6⟩ := F
    have hml := (List.getElem?_eq_some_iff.mp f4).1
    have hat : ∀ j : Nat, j < (sf names.length m 9 [] 0).length → gt ((sf names.length m 9 [] 0).map fun y2 => (y2.length : Int)) (j : Int) = ((gt (sf names.length m 9 [] 0) (j : Int)).length : Int) := fun j hj => by
      rw [gt_some (v := ((sf names.length m 9 [] 0)[j].length : Int)) (by rw [List.getElem?_map, List.getElem?_eq_getElem hj]; rfl), gt_some (List.getElem?_eq_getElem hj)]
    have hgm : gt (sf names.length m 9 [] 0) (m : Int) = rng 0 m := gt_some f4
    have hb : o_first_of_best__0 (sf names.length m 9 [] 0) ((sf names.length m 9 [] 0).map fun y2 => (y2.length : Int)) ∧ v_first_of_best__0 (sf names.length m 9 [] 0) ((sf names.length m 9 [] 0).map fun y2 => (y2.length : Int)) = rng 0 m := by
      refine (show ∀ Q : List Int → Prop, Q (rng 0 m) → o_first_of_best__0 (sf names.length m 9 [] 0) ((sf names.length m 9 [] 0).map fun y2 => (y2.length : Int)) ∧ Q (v_first_of_best__0 (sf names.length m 9 [] 0) ((sf names.length m 9 [] 0).map fun y2 => (y2.length : Int))) from fun Q hQ => ?_) (fun z => z = _) rfl
      unfold o_first_of_best__0 v_first_of_best__0
      refine both (· = (0 : Int)) rfl ?_
      rintro _ rfl
      refine fob_go (L := fun a b : Int => decide (a < b)) lt_int (fun q => by have := congrArg List.length q; rw [List.length_map] at this; simp at this; rw [this] at hml; exact absurd hml (Nat.not_lt_zero _)) fun b hb => ?_
      have hbm : b = m := best_at hb (by rw [List.length_map]; exact hml) (fun j hj => ?_) fun j hj hjl => ?_
      · rw [hbm]
        refine ⟨⟨okx_of (by omega) (by omega), trivial⟩, ?_⟩
        rw [hgm]; exact hQ
      · show decide (_ < _) = true
        rw [hat j (by omega), hat m hml, hgm, len_rng]
        have := f5 j (List.mem_range.mpr hj)
        exact decide_eq_true (by omega)
      · rw [List.length_map] at hjl
        show decide (_ < _) = false
        rw [hat j hjl, hat m hml, hgm, len_rng]
        have := (f1 _ (List.mem_of_getElem? (List.getElem?_eq_getElem hjl))).2.2
        rw [gt_some (List.getElem?_eq_getElem hjl)]
        exact decide_eq_false (by omega)
    refine band (by show _ < 16777216; omega) (band (fun _ _ => trivial) ⟨⟨hb.1, trivial⟩, ?_⟩)
    rw [hb.2]; exact hP
  exact key (fun z => z = _) rfl
theorem val_ok {C : List Int} (hl : C.length ≤ 6) (hr : ∀ k ∈ C, 0 ≤ k ∧ k < vs.length) : o_value_of vs C ∧ v_value_of vs C = val vs C :=
  ⟨⟨by show _ < 16777216; omega, fun k hk => okx_of (hr k hk).1 (hr k hk).2, trivial⟩, rfl⟩
theorem bestv_ok (hN : Nm names (names.length : Int)) (hnl : names.length ≤ 6) (hv : vs.length = names.length) (hm : m ≤ names.length) (hs0 : 0 ≤ spare) (hs1 : spare < each) (hF : Fall vs order) {μ : Int} (h0 : 0 < μ) (h1 : ∀ k ∈ top order m, μ ≤ gt vs k) (h2 : ∀ k : Int, 0 ≤ k → k < vs.length → k ∉ top order m → gt vs k ≤ μ) :
    o_best_value (stk names ((m : Int) * each + spare)) (ords names each) vs ∧ v_best_value (stk names ((m : Int) * each + spare)) (ords names each) vs = top order m := by
  have hf := fitting_ok (m := m) hN hnl hs0 hs1
  have F := fct_of hm hnl
  have key : ∀ P : List Int → Prop, P (top order m) → o_best_value (stk names ((m : Int) * each + spare)) (ords names each) vs ∧ P (v_best_value (stk names ((m : Int) * each + spare)) (ords names each) vs) := by
    intro P hP
    unfold o_best_value v_best_value
    refine band hf.1 (both (· = sf names.length m 9 [] 0) hf.2 ?_)
    rintro _ rfl
    obtain ⟨f1, f2, f3, f4, f5, f6⟩ := F
    have hin : ∀ C ∈ sf names.length m 9 [] 0, C.Pairwise (· < ·) ∧ (∀ k ∈ C, 0 ≤ k ∧ k < vs.length) ∧ C.length ≤ m := fun C hC => by
      have := f1 C hC
      rw [hv]
      exact this
    obtain ⟨i, hi, ei⟩ := List.mem_iff_getElem.mp (f3 (top order m) (by rw [← hv]; exact top_sub hF) (by rw [top_len hF (by omega)]; exact Nat.le_refl _))
    have hat : ∀ j : Nat, (hj : j < (sf names.length m 9 [] 0).length) → gt ((sf names.length m 9 [] 0).map fun y2 => ((v_value_of vs y2), (-(y2.length : Int)))) (j : Int) = (val vs (sf names.length m 9 [] 0)[j], -((sf names.length m 9 [] 0)[j].length : Int)) := fun j hj =>
      gt_some (by rw [List.getElem?_map, List.getElem?_eq_getElem hj]; rfl)
    have hb : o_first_of_best__1 (sf names.length m 9 [] 0) ((sf names.length m 9 [] 0).map fun y2 => ((v_value_of vs y2), (-(y2.length : Int)))) ∧ v_first_of_best__1 (sf names.length m 9 [] 0) ((sf names.length m 9 [] 0).map fun y2 => ((v_value_of vs y2), (-(y2.length : Int)))) = top order m := by
      refine (show ∀ Q : List Int → Prop, Q (top order m) → o_first_of_best__1 (sf names.length m 9 [] 0) ((sf names.length m 9 [] 0).map fun y2 => ((v_value_of vs y2), (-(y2.length : Int)))) ∧ Q (v_first_of_best__1 (sf names.length m 9 [] 0) ((sf names.length m 9 [] 0).map fun y2 => ((v_value_of vs y2), (-(y2.length : Int))))) from fun Q hQ => ?_) (fun z => z = _) rfl
      unfold o_first_of_best__1 v_first_of_best__1
      refine both (· = (0 : Int)) rfl ?_
      rintro _ rfl
      refine fob_go (L := ltp) lt_ltp (fun q => by have := congrArg List.length q; rw [List.length_map] at this; simp at this; rw [this] at hi; exact absurd hi (Nat.not_lt_zero _)) fun b hb => ?_
      have hbm : b = i := best_at hb (by rw [List.length_map]; exact hi) (fun j hj => ?_) fun j hj hjl => ?_
      · rw [hbm]
        refine ⟨⟨okx_of (by omega) (by omega), trivial⟩, ?_⟩
        rw [gt_some (List.getElem?_eq_getElem hi), ei]; exact hQ
      · rw [hat j (by omega), hat i hi, ei]
        have hj' : j < (sf names.length m 9 [] 0).length := by omega
        obtain ⟨q1, q2, q3⟩ := hin _ (List.getElem_mem hj')
        refine (before hF (by omega) h0 h1 h2 q1 q2 q3).2 ?_
        rw [← ei]
        exact List.pairwise_iff_getElem.mp f2 j i hj' hi hj
      · rw [List.length_map] at hjl
        rw [hat j hjl, hat i hi, ei]
        obtain ⟨q1, q2, q3⟩ := hin _ (List.getElem_mem hjl)
        exact (before hF (by omega) h0 h1 h2 q1 q2 q3).1
    refine band (by show _ < 16777216; omega) (band (fun C hC => (val_ok (by have := (hin C hC).2.2; omega) (hin C hC).2.1).1) ⟨⟨hb.1, trivial⟩, ?_⟩)
    rw [hb.2]; exact hP
  exact key (fun z => z = _) rfl
end
end K24

set_option maxHeartbeats 2000000
/-! K24O: the wholes hold. -/
namespace K24
open PySem ZZ L2
theorem bg_lt {T : Int} : ∀ {l : List Int} {t : Int} {j : Nat}, j < bg T t l → (t + (l.take j).sum) * 100 < T
  | [], t, j, h => absurd h (by simp [bg])
  | v :: r, t, j, h => by
    by_cases q : T ≤ t * 100
    · rw [bg_stop q] at h; exact absurd h (Nat.not_lt_zero _)
    · rw [bg_step q] at h
      cases j with
      | zero => simp; omega
      | succ j =>
        have := bg_lt (T := T) (l := r) (t := t + v) (j := j) (by omega)
        rw [List.take_succ_cons, List.sum_cons]
        omega
theorem sum_np : ∀ {l : List Int}, (∀ v ∈ l, v ≤ 0) → l.sum ≤ 0
  | [], _ => Int.le_refl _
  | a :: l, h => by
    have h1 := sum_np fun v hv => h v (List.mem_cons_of_mem _ hv)
    have h3 := h a List.mem_cons_self
    rw [List.sum_cons]; omega
section
variable {names : List Str} {vs order : List Int} {each spare : Int} {m : Nat}
theorem mu_ok (hF : Fall vs order) {T : Int} (hT : T ≤ vs.sum * 100) (h0 : 0 < T) (hs : 0 < vs.sum) (hm : m = bg T 0 (order.map fun k => gt vs k)) : ∃ μ : Int, 0 < μ ∧ (∀ k ∈ top order m, μ ≤ gt vs k) ∧ (∀ k : Int, 0 ≤ k → k < vs.length → k ∉ top order m → gt vs k ≤ μ) := by
  have hle : m ≤ order.length := by
    have := bg_le (T := T) (l := order.map fun k => gt vs k) (t := 0)
    rw [List.length_map] at this
    omega
  have hm1 : 1 ≤ m := by
    rw [hm]
    cases ho : order with
    | nil =>
      have := fall_sum hF
      rw [ho] at this
      simp at this; omega
    | cons a l =>
      rw [List.map_cons, bg_step (by omega)]; omega
  have hlt : m - 1 < order.length := by omega
  have hpw := List.pairwise_iff_getElem.mp hF.pw
  have hlast : ∀ k ∈ order.drop (m - 1), gt vs k ≤ gt vs order[m - 1] := fun k hk => by
    obtain ⟨i, hi, rfl⟩ := List.mem_iff_getElem.mp hk
    rw [List.length_drop] at hi
    rw [List.getElem_drop]
    cases i with
    | zero => exact Int.le_refl _
    | succ i =>
      have := hpw (m - 1) (m - 1 + (i + 1)) hlt (by omega) (by omega)
      unfold beats at this
      omega
  refine ⟨gt vs order[m - 1], ?_, fun k hk => ?_, fun k k0 k1 hk => ?_⟩
  · have h1 := bg_lt (T := T) (l := order.map fun k => gt vs k) (t := 0) (j := m - 1) (by omega)
    have h2 := fall_sum hF
    rw [← List.take_append_drop (m - 1) (order.map fun k => gt vs k), List.sum_append] at h2
    refine Classical.byContradiction fun hn => ?_
    have h3 := sum_np (l := (order.map fun k => gt vs k).drop (m - 1)) fun v hv => by
      rw [← List.map_drop] at hv
      obtain ⟨k, hk, rfl⟩ := List.mem_map.mp hv
      have := hlast k hk
      omega
    omega
  · have hk := top_perm.mem_iff.mp hk
    obtain ⟨i, hi, rfl⟩ := List.mem_iff_getElem.mp hk
    rw [List.length_take] at hi
    rw [List.getElem_take]
    by_cases q : i = m - 1
    · subst q; exact Int.le_refl _
    · have := hpw i (m - 1) (by omega) hlt (by omega)
      unfold beats at this
      omega
  · have hko : k ∈ order := (fall_perm hF).mem_iff.mpr (mem_rng.mpr ⟨k0, k1⟩)
    refine hlast k ?_
    rw [← List.take_append_drop m order] at hko
    rcases List.mem_append.mp hko with h | h
    · exact absurd (top_perm.mem_iff.mpr h) hk
    · obtain ⟨i, hi, rfl⟩ := List.mem_iff_getElem.mp h
      rw [List.length_drop] at hi
      rw [List.getElem_drop]
      refine List.mem_iff_getElem.mpr ⟨i + 1, by rw [List.length_drop]; omega, ?_⟩
      rw [List.getElem_drop]
      congr 1
      omega
theorem zz_ok : PyData.strOk zz = true := by decide +kernel
theorem wholes_ok (hN : Nm names (names.length : Int)) (hnl : names.length ≤ 6) (hv : vs.length = names.length) (hF : Fall vs order) {T : Int} (hT : T ≤ vs.sum * 100) (hT0 : 0 < T) (hs : 0 < vs.sum) (hm : m = bg T 0 (order.map fun k => gt vs k)) (he : each ≤ 1000) (hs0 : 0 ≤ spare) (hs1 : spare < each) :
    o__law_wholes_hold names vs order (m : Int) each spare ∧ v__law_wholes_hold names vs order (m : Int) each spare = true := by
  obtain ⟨μ, u0, u1, u2⟩ := mu_ok hF hT hT0 hs hm
  have hol := hF.len
  have hle : m ≤ names.length := by
    have := bg_le (T := T) (l := order.map fun k => gt vs k) (t := 0)
    rw [List.length_map] at this
    omega
  have hB := bestv_ok hN hnl hv hle hs0 hs1 hF u0 u1 u2
  have hM := most_ok hN hnl hle hs0 hs1
  have htl := top_len (m := m) hF (by omega)
  have htr : ∀ k ∈ top order m, 0 ≤ k ∧ k < names.length := fun k hk => by
    have := top_in hF hk
    omega
  have hfit := fits_ok (m := m) hN (by omega) hs0 hs1 (inc_nd (top_inc hF)) htr
  have key : ∀ P : Bool → Prop, P true → o__law_wholes_hold names vs order (m : Int) each spare ∧ P (v__law_wholes_hold names vs order (m : Int) each spare) := by
    intro P hP
    unfold o__law_wholes_hold v__law_wholes_hold
    have hnz : oks names := by show _ < 16777216; omega
    refine band hnz (band (fun _ _ => trivial) (both (· = ords names each) rfl ?_))
    rintro _ rfl
    refine band hnz (band (fun _ _ => trivial) (band (cmulR (by omega) (by omega)) (band (by rw [List.length_map]; simp; omega) (both (· = stk names ((m : Int) * each + spare)) rfl ?_))))
    rintro _ rfl
    have hcut : cut order none (some (m : Int)) = order.take m := by rw [cut_take (by omega)]; rfl
    have hcz : oks (cut order none (some (m : Int))) := by show _ < 16777216; rw [hcut, List.length_take]; omega
    refine band hcz (band (fun _ _ => trivial) (band hcz (band (fun _ _ => trivial) (both (· = top order m) (by rw [hcut, List.map_id']; rfl) ?_))))
    rintro _ rfl
    refine both (· = (stk names ((m : Int) * each + spare), ords names each, vs)) rfl ?_
    rintro _ rfl
    refine band hB.1 (band hB.2 ?_)
    have hEs : okE (Sq true (pr2 Tx I)) (stk names ((m : Int) * each + spare)) := fun x hx => by
      rcases List.mem_append.mp hx with hx | hx
      · obtain ⟨y, hy, rfl⟩ := List.mem_map.mp hx
        exact ⟨nm_ok hN y hy, trivial⟩
      · rw [List.mem_singleton.mp hx]; exact ⟨zz_ok, trivial⟩
    have hEo : okE (Sq true (pr2 (pr2 Tx I) (pr2 Tx I))) (ords names each) := fun x hx => by
      obtain ⟨y, hy, rfl⟩ := List.mem_map.mp hx
      exact ⟨⟨nm_ok hN y hy, trivial⟩, ⟨zz_ok, trivial⟩⟩
    have hEv : okE (Sq true I) vs := fun _ _ => trivial
    dsimp only
    rw [show decide (stk names ((m : Int) * each + spare) = stk names ((m : Int) * each + spare)) = true from dec_eq, show decide (ords names each = ords names each) = true from dec_eq, show decide (vs = vs) = true from dec_eq]
    have hrest : ∀ Z : Prop, Z → okI (decide ((m : Int) = (names.length : Int))) True Z := fun Z z => ⟨fun _ => trivial, fun _ => z⟩
    refine ⟨⟨fun _ => trivial, fun _ => ⟨⟨hEs, hEs⟩, fun _ => ⟨⟨hEo, hEo⟩, fun _ => ⟨hEv, hEv⟩⟩, fun _ => trivial, fun _ => ⟨hM.1, okr_lit (by omega) (by omega) (by omega) (by omega), by show _ < 16777216; rw [len_rng]; omega, fun _ _ => trivial, by rw [hM.2, List.map_id'], fun _ => trivial, fun _ => ⟨hfit.1, by rw [hfit.2, htl]; exact decide_eq_true (Nat.le_refl _), fun _ => trivial, fun _ => ⟨fun _ => trivial, fun hq => ?_⟩⟩⟩⟩⟩, ?_⟩
    · have hq := of_decide_eq_false hq
      have hml : m < order.length := by omega
      have hg : gt order (m : Int) = order[m] := gt_some (List.getElem?_eq_getElem hml)
      refine ⟨okx_of (by omega) (by omega), ?_⟩
      rw [lt_def, hg]
      have hat := hF.rg _ (List.getElem_mem hml)
      have hnin : order[m] ∉ top order m := fun h => by
        have h := top_perm.mem_iff.mp h
        obtain ⟨i, hi, e⟩ := List.mem_iff_getElem.mp h
        rw [List.length_take] at hi
        rw [List.getElem_take] at e
        exact List.pairwise_iff_getElem.mp hF.nd i m (by omega) hml (by omega) e
      have hnd : (top order m ++ [order[m]]).Nodup := List.nodup_append.mpr ⟨inc_nd (top_inc hF), List.pairwise_singleton _ _, fun x hx y hy e => hnin (by rw [← List.mem_singleton.mp hy, ← e]; exact hx)⟩
      have hr : ∀ k ∈ top order m ++ [order[m]], 0 ≤ k ∧ k < names.length := fun k hk => by
        rcases List.mem_append.mp hk with hk | hk
        · exact htr k hk
        · rw [List.mem_singleton.mp hk]; omega
      have hlen : (top order m ++ [order[m]]).length = m + 1 := by rw [List.length_append, htl]; rfl
      have htoo := too_ok (m := m) hN (by omega) hs0 hs1 hnd hr
      rw [hlen, if_pos (Nat.lt_succ_self _)] at htoo
      have hz : oks (top order m ++ [order[m]]) := by show _ < 16777216; omega
      have h16 : (top order m).length + ([order[m]] : List Int).length ≤ 16777216 := by rw [htl]; show m + 1 ≤ 16777216; omega
      refine ⟨⟨h16, htoo.1, trivial⟩, htoo.2, fun _ => trivial, fun _ => ⟨h16, hz, fun _ _ => trivial, h16, hz, fun _ _ => trivial, ?_⟩⟩
      rw [lt_def, List.map_id']
      have hp := srt_perm leI (top order m ++ [order[m]])
      have hf2 := fits_ok (m := m) hN (by omega) hs0 hs1 (hp.nodup_iff.mpr hnd) fun k hk => hr k (hp.mem_iff.mp hk)
      refine ⟨hf2.1, ?_, trivial⟩
      rw [hf2.2, hp.length_eq, hlen]
      exact decide_eq_false (by omega)
    · show P (cond (decide ((m : Int) = (names.length : Int))) true _)
      cases decide ((m : Int) = (names.length : Int)) <;> exact hP
  exact key (fun z => z = true) rfl
end
end K24

set_option maxHeartbeats 2000000
/-! K24P: percents, marks, periods. -/
namespace K24
open PySem ZZ L2
theorem bcheck {b : Bool} {o : Prop} {P : Bool → Prop} {z : Bool} (hb : b = true) (h : o ∧ P z) : okI (!b) True o ∧ P (cond (!b) false z) := by
  subst hb
  exact ⟨⟨fun _ => trivial, fun _ => h.1⟩, h.2⟩
theorem percent_ok {pool vs order : List Int} (hF : Fall vs order) (hV : Vs (vs.length : Int) vs) (h1 : 1 ≤ vs.length) (h2 : vs.length ≤ 12) : ∀ P : Int × List Int → Prop, (∀ z, 1 ≤ z.1 ∧ z.1 ≤ 100 → P z) → o__law_percent pool vs order ∧ P (v__law_percent pool vs order) := by
  intro P hP
  have hol := hF.len
  obtain ⟨_, v2, v3⟩ := hV
  have hsum : vs.sum ≤ 100000 * vs.length := sum_le fun v hv => (v2 v hv).2
  unfold o__law_percent v__law_percent
  refine band (dr_ok (by omega)) (both (fun s => 0 ≤ s.1 ∧ s.1 < order.length) (dr_in (by omega)) fun s1 q1 => ?_)
  have hc : cut order none (some (s1.1 + 1)) = order.take (s1.1 + 1).toNat := cut_take (by omega)
  refine band (by show _ < 16777216; rw [hc, List.length_take]; omega) (band (fun k hk => ?_) (both (fun _ => True) trivial fun part _ => ?_))
  · rw [hc] at hk
    have := hF.rg k (List.mem_of_mem_take hk)
    exact okx_of this.1 this.2
  refine band (cmulR (by decide) (by decide)) (band ⟨v3, by omega⟩ (band (dr_ok (by decide)) (both (fun _ => True) trivial fun s5 _ => ?_)))
  refine band (dr_ok (by decide)) (band ?_ (both (fun _ => True) trivial fun s9 _ => ⟨trivial, hP _ ?_⟩))
  · exact ⟨fun _ => ⟨cmulR (by decide) (by decide), ⟨by omega, by omega⟩, trivial⟩, fun _ => trivial⟩
  · dsimp only; omega
theorem period_ok {pool : List Int} : ∀ P : Int × List Int → Prop, (∀ z, 1 ≤ z.1 ∧ z.1 ≤ 100 → P z) → o__law_period pool ∧ P (v__law_period pool) := by
  intro P hP
  unfold o__law_period v__law_period
  refine band (dr_ok (by decide)) (both (fun s => 1 ≤ s.1 ∧ s.1 ≤ 100) (by have := dr_in (p := pool) (m := 4) (by decide); dsimp only; omega) fun s1 q1 => ?_)
  refine band (dr_ok (by decide)) (both (fun s => 1 ≤ s.1 ∧ s.1 ≤ 100) (by have := dr_in (p := s1.2) (m := 20) (by decide); dsimp only; omega) fun s2 q2 => ?_)
  refine band (dr_ok (by decide)) (both (fun s => 1 ≤ s.1 ∧ s.1 ≤ 100) (by have := dr_in (p := s2.2) (m := 30) (by decide); dsimp only; omega) fun s3 q3 => ?_)
  have d3 := dr_in (p := s3.2) (m := 3) (by decide)
  refine band (dr_ok (by decide)) (band (okx_of d3.1 d3.2) ⟨trivial, hP _ ?_⟩)
  dsimp only
  generalize (v__law_draw s3.2 3).1 = j at d3
  have : j = 0 ∨ j = 1 ∨ j = 2 := by omega
  rcases this with rfl | rfl | rfl
  · exact q1
  · exact q2
  · exact q3
theorem days_ok {pool : List Int} {n : Int} : ∀ P : Int × List Int → Prop, (∀ z, 1 ≤ z.1 ∧ z.1 ≤ 60 → P z) → o__law_days pool n ∧ P (v__law_days pool n) := by
  intro P hP
  unfold o__law_days v__law_days
  refine band (dr_ok (by decide)) (both (fun s => 1 ≤ s.1 ∧ s.1 ≤ 60) (by have := dr_in (p := pool) (m := 12) (by decide); dsimp only; omega) fun s1 q1 => ?_)
  refine band (dr_ok (by decide)) (both (fun _ => True) trivial fun s4 _ => ⟨⟨fun _ => trivial, fun _ => trivial⟩, ?_⟩)
  cases s4.1 with
  | true => exact hP _ ⟨(by show (1 : Int) ≤ 60; decide), (by show (60 : Int) ≤ 60; decide)⟩
  | false => exact hP _ q1
theorem mapA_inv {α β τ : Type} {f : τ → β → α × τ} {ok : τ → β → Prop} {Q : α → Prop} (h : ∀ s y, ok s y ∧ Q (f s y).1) : ∀ (ys : List β) (s : τ), okA f ok s ys ∧ (mapA f s ys).1.length = ys.length ∧ ∀ x ∈ (mapA f s ys).1, Q x
  | [], s => ⟨trivial, rfl, fun _ h => absurd h List.not_mem_nil⟩
  | y :: ys, s => by
    obtain ⟨h1, h2⟩ := h s y
    obtain ⟨q1, q2, q3⟩ := mapA_inv h ys (f s y).2
    refine ⟨⟨h1, q1⟩, by rw [mapA, List.length_cons, List.length_cons, q2], fun x hx => ?_⟩
    rw [mapA] at hx
    rcases List.mem_cons.mp hx with rfl | hx
    · exact h2
    · exact q3 x hx
theorem gt_stx {xs : List Str} {y k : Int} {v : Str} (h0 : 0 ≤ y) (h1 : y < xs.length) (k0 : 0 ≤ k) (k1 : k < xs.length) : gt (stx xs y v) k = if k = y then v else gt xs k := by
  rw [gt_get k0 (by rw [stx_len]; omega), gt_get k0 (by omega)]
  unfold stx ixv
  simp only [if_pos h0, List.getElem_set]
  by_cases q : k = y
  · rw [if_pos q, if_pos (by rw [q])]
  · rw [if_neg q, if_neg (by omega)]
/-- marks set at the places of a list -/
theorem marks_ok {n : Int} {c : Str} {f0 : Int → Str} {m0 : List Str} {ks : List Int} (hl : (m0.length : Int) = n) (h0 : ∀ k : Int, 0 ≤ k → k < n → gt m0 k = f0 k) (hk : ∀ k ∈ ks, 0 ≤ k ∧ k < n) {γ : Type} {okk : List Str → Prop} {kk : List Str → γ} {P : γ → Prop} (fin : ∀ s : List Str, (s.length : Int) = n → (∀ k : Int, 0 ≤ k → k < n → gt s k = if k ∈ ks then c else f0 k) → okk s ∧ P (kk s)) :
    (okL (fun (s45 : List Str) (y46 : Int) => lt (stx s45 y46 c) fun marks_47 => marks_47) (fun (s45 : List Str) (y46 : Int) => (okx s45 y46) ∧ lt (stx s45 y46 c) fun marks_47 => True) m0 ks ∧ lt (List.foldl (fun (s45 : List Str) (y46 : Int) => lt (stx s45 y46 c) fun marks_47 => marks_47) m0 ks) okk) ∧ P (lt (List.foldl (fun (s45 : List Str) (y46 : Int) => lt (stx s45 y46 c) fun marks_47 => marks_47) m0 ks) kk) := by
  refine bloopC (fun pre (s : List Str) => (s.length : Int) = n ∧ ∀ k : Int, 0 ≤ k → k < n → gt s k = if k ∈ pre then c else f0 k) ⟨hl, fun k k0 k1 => by rw [if_neg List.not_mem_nil]; exact h0 k k0 k1⟩ ?_ fun s h => fin s h.1 h.2
  rintro pre y post s e ⟨q1, q2⟩ P hP
  obtain ⟨y0, y1⟩ := hk y (e ▸ List.mem_append_right _ List.mem_cons_self)
  refine band (okx_of y0 (by omega)) ⟨trivial, hP _ ⟨by rw [lt_def, stx_len]; exact q1, fun k k0 k1 => ?_⟩⟩
  rw [lt_def, gt_stx y0 (by omega) k0 (by omega)]
  by_cases q : k = y
  · rw [if_pos q, if_pos (by rw [q]; exact List.mem_append_right _ List.mem_cons_self)]
  · rw [if_neg q, q2 k k0 k1]
    by_cases q3 : k ∈ pre
    · rw [if_pos q3, if_pos (List.mem_append_left _ q3)]
    · rw [if_neg q3, if_neg]
      intro z
      rcases List.mem_append.mp z with z | z
      · exact q3 z
      · exact q (List.mem_singleton.mp z)
theorem take_iff {order : List Int} (hn : order.Nodup) {j t : Nat} {k : Int} (hj : order[j]? = some k) : k ∈ order.take t ↔ j < t := by
  obtain ⟨hjl, rfl⟩ := List.getElem?_eq_some_iff.mp hj
  constructor
  · intro h
    obtain ⟨i, hi, e⟩ := List.mem_iff_getElem.mp h
    rw [List.length_take] at hi
    rw [List.getElem_take] at e
    rcases Nat.lt_trichotomy i j with q | q | q
    · exact absurd e (List.pairwise_iff_getElem.mp hn _ _ (by omega) hjl q)
    · omega
    · exact absurd e.symm (List.pairwise_iff_getElem.mp hn _ _ hjl (by omega) q)
  · intro h
    exact List.mem_iff_getElem.mpr ⟨j, by rw [List.length_take]; omega, by rw [List.getElem_take]⟩
theorem rep_c {n : Int} (h0 : 0 ≤ n) : ((rep (["c"] : List Str) n).length : Int) = n ∧ ∀ k : Int, 0 ≤ k → k < n → gt (rep (["c"] : List Str) n) k = "c" := by
  have e : rep (["c"] : List Str) n = List.replicate n.toNat ("c" : Str) := by
    unfold rep
    generalize n.toNat = m
    induction m with
    | zero => rfl
    | succ m ih => rw [List.replicate_succ, List.flatten_cons, ih, List.replicate_succ]; rfl
  rw [e]
  refine ⟨by rw [List.length_replicate]; omega, fun k k0 k1 => ?_⟩
  rw [gt_get k0 (by rw [List.length_replicate]; omega), List.getElem_replicate]
theorem cut_rot {α : Type} {xs : List α} {t : Int} (h0 : 0 ≤ t) (h1 : t < xs.length) : (cut xs (some t) none ++ cut xs none (some t)).Perm xs := by
  have e : cut xs (some t) none = xs.drop t.toNat := by
    unfold cut HT.sIx
    simp only [if_neg (show ¬ t < 0 by omega)]
    rw [Nat.min_eq_left (by omega)]
    exact List.take_of_length_le (by rw [List.length_drop]; omega)
  rw [e, cut_take h0]
  exact List.perm_append_comm.trans (by rw [List.take_append_drop])
theorem sort2 {a b : Int} : srt leI [a, b] = if a ≤ b then [a, b] else [b, a] := by
  show sins leI a (sins leI b []) = _
  show sins leI a [b] = _
  unfold sins
  by_cases h : a ≤ b
  · rw [show leI a b = true from decide_eq_true h, if_pos h]; rfl
  · rw [show leI a b = false from decide_eq_false h, if_neg h]; rfl
end K24

set_option maxHeartbeats 4000000
/-! K24E: the law. -/
namespace K24
open PySem ZZ L2
theorem abc3 : ("abc" : Str).length = 3 := by decide +kernel
theorem law_ok {script : List Int} (hl : script.length ≤ 63) : ∀ P : Bool → Prop, P true → o_law script ∧ P (v_law script) := by
  intro P hP
  unfold o_law v_law
  refine band (pool_ok hl) (both (fun _ => True) trivial fun pool _ => ?_)
  refine band (dr_ok (by decide)) (both (fun s => 1 ≤ s.1 ∧ s.1 ≤ 6) (by have := dr_in (p := pool) (m := 6) (by decide); dsimp only; omega) fun s3 h3 => ?_)
  refine band (dr_ok (by decide)) (band ⟨fun _ => trivial, fun _ => trivial⟩ (both (fun s => 1 ≤ s.2 ∧ s.2 ≤ 12) ?_ fun s7 h7 => ?_))
  · rw [lt_def]
    dsimp only
    cases decide ((v__law_draw s3.2 4).1 = 0) with
    | true => show 1 ≤ s3.1 + 6 ∧ s3.1 + 6 ≤ 12; omega
    | false => show 1 ≤ s3.1 ∧ s3.1 ≤ 12; omega
  obtain ⟨n1, n2⟩ := h7
  refine both (· = ([] : List Str)) rfl ?_
  rintro _ rfl
  refine band (okr_lit (by omega) (by omega) (by omega) (by omega)) ?_
  refine bloopC (fun pre (s : List Int × List Str) => s.2.length = pre.length ∧ s.2.Nodup ∧ ∀ w ∈ s.2, Wd w) ⟨rfl, List.nodup_nil, fun _ h => absurd h List.not_mem_nil⟩ ?_ fun s17 h17 => ?_
  · rintro pre y post ⟨pl, ws⟩ e ⟨q1, q2, q3⟩ P hP'
    dsimp only at q1 q2 q3
    have hpl : pre.length < 12 := by
      have := congrArg List.length e
      rw [len_rng, List.length_append, List.length_cons] at this
      omega
    have hw := word_ok (pool := pl) (words := ws) (by omega) (fun z => Wd z.1 ∧ z.1 ∉ ws) fun z h => h
    refine band (by show ws.length < 16777216; omega) (band hw.1 ⟨trivial, hP' _ ⟨?_, ?_, fun w hw' => ?_⟩⟩)
    · show (ws ++ [_]).length = _
      simp [q1]
    · exact List.nodup_append.mpr ⟨q2, List.pairwise_singleton _ _, fun x hx y hy e => hw.2.2 (by rw [← List.mem_singleton.mp hy, ← e]; exact hx)⟩
    · rcases List.mem_append.mp hw' with h | h
      · exact q3 w h
      · rw [List.mem_singleton.mp h]; exact hw.2.1
  obtain ⟨w1, w2, w3⟩ := h17
  rw [len_rng] at w1
  have hws : oks s17.2 := by show _ < 16777216; omega
  refine band hws (band (fun _ _ => trivial) (band hws (band (fun _ _ => trivial) (band (by rw [List.length_map]; omega) (both (· = srt leS s17.2) (by rw [List.map_id']) ?_)))))
  rintro _ rfl
  have hperm := srt_perm leS s17.2
  have hN' : Nm (srt leS s17.2) ((srt leS s17.2).length : Int) := ⟨rfl, srt_sorted tot_leS _, hperm.nodup_iff.mpr w2, fun s hs => w3 s (hperm.mem_iff.mp hs)⟩
  have hnl : ((srt leS s17.2).length : Int) = s7.2 := by rw [hperm.length_eq]; omega
  generalize srt leS s17.2 = names at hN' hnl
  clear hperm
  have hval := values_ok (pool := s17.1) n1 n2 (fun z => Vs s7.2 z.1) fun z h => h
  refine band hval.1 (both (fun s => Vs s7.2 s.1) hval.2 fun s22 hV => ?_)
  generalize s7.2 = n at *
  subst hnl
  have hvl : (s22.1.length : Int) = names.length := hV.1
  have hvl' : s22.1.length = names.length := by omega
  refine band (okr_lit (by omega) (by omega) (by omega) (by omega)) (band (by show _ < 16777216; rw [len_rng]; omega) (band (fun k hk => ?_) (both (· = (rng 0 (names.length : Int)).map fun y24 => ((gt names y24), (gt s22.1 y24))) rfl ?_)))
  · rw [mem_rng] at hk
    exact ⟨okx_of hk.1 hk.2, okx_of hk.1 (by omega)⟩
  rintro _ rfl
  have hil : (((rng 0 (names.length : Int)).map fun y24 => ((gt names y24), (gt s22.1 y24))).length : Int) = names.length := by rw [List.length_map, len_rng]; omega
  refine band (dr_ok (by omega)) (both (fun s => 0 ≤ s.1 ∧ s.1 < names.length) (dr_in (by omega)) fun s27 h27 => ?_)
  have hrot := cut_rot (xs := (rng 0 (names.length : Int)).map fun y24 => ((gt names y24), (gt s22.1 y24))) h27.1 (by omega)
  refine band ?_ (both (fun it => it.Perm ((rng 0 (names.length : Int)).map fun y24 => ((gt names y24), (gt s22.1 y24)))) hrot fun items30 h30 => ?_)
  · have := hrot.length_eq
    rw [List.length_append] at this
    omega
  refine band (dr_ok (by decide)) (band ⟨fun _ => trivial, fun _ => trivial⟩ (both (fun s => s.2.Perm ((rng 0 (names.length : Int)).map fun y24 => ((gt names y24), (gt s22.1 y24)))) ?_ fun s33 h33 => ?_))
  · rw [lt_def]
    dsimp only
    cases decide ((v__law_draw s27.2 2).1 = 0) with
    | true => exact (List.reverse_perm _).trans h30
    | false => exact h30
  have hfall := falling_ok (vs := s22.1) (by omega) (fun z => Fall s22.1 z) fun z h => h
  refine band hfall.1 (both (fun o => Fall s22.1 o) hfall.2 fun order hF => ?_)
  have hV' : Vs (s22.1.length : Int) s22.1 := ⟨rfl, hV.2⟩
  have hsum := hV.2.2
  have hp1 := percent_ok (pool := s33.1) hF hV' (by omega) (by omega) (fun z => 1 ≤ z.1 ∧ z.1 ≤ 100) fun z h => h
  have hp2 := percent_ok (pool := (v__law_percent s33.1 s22.1 order).2) hF hV' (by omega) (by omega) (fun z => 1 ≤ z.1 ∧ z.1 ≤ 100) fun z h => h
  refine band hp1.1 (band hp2.1 (both (fun s => ∃ a b : Int, s.1 = [a, b] ∧ (1 ≤ a ∧ a ≤ 100) ∧ 1 ≤ b ∧ b ≤ 100) ⟨_, _, rfl, hp1.2, hp2.2⟩ fun s36 h36 => ?_))
  obtain ⟨pa, pb, epc, hpa, hpb⟩ := h36
  have h2z : oks s36.1 := by rw [epc]; show 2 < 16777216; decide
  refine band h2z (band (fun _ _ => trivial) (band h2z (band (fun _ _ => trivial) (both (fun ps => ∃ a b : Int, ps = [a, b] ∧ 1 ≤ a ∧ a ≤ b ∧ b ≤ 100) ?_ fun percents hpc => ?_))))
  · rw [List.map_id', epc, sort2]
    by_cases q : pa ≤ pb
    · rw [if_pos q]; exact ⟨pa, pb, rfl, by omega, by omega, by omega⟩
    · rw [if_neg q]; exact ⟨pb, pa, rfl, by omega, by omega, by omega⟩
  obtain ⟨a, b, rfl, pa1, pab, pb1⟩ := hpc
  have g0 : gt [a, b] (0 : Int) = a := rfl
  have g1 : gt [a, b] (1 : Int) = b := rfl
  rw [g0, g1]
  have x0 : okx [a, b] (0 : Int) := okx_of (by decide) (by show (0 : Int) < 2; decide)
  have x1 : okx [a, b] (1 : Int) := okx_of (by decide) (by show (1 : Int) < 2; decide)
  have hox : ∀ x ∈ order, okx s22.1 x := fun x hx => by have := hF.rg x hx; exact okx_of this.1 this.2
  have hb1 := lbeg_ok (pc := a) hox (by omega) (by omega)
  have hb2 := lbeg_ok (pc := b) hox (by omega) (by omega)
  refine band x0 (band hb1.1 (both (· = ((bg (a * s22.1.sum) 0 (order.map fun k => gt s22.1 k) : Nat) : Int)) hb1.2 ?_))
  rintro _ rfl
  refine band x1 (band hb2.1 (both (· = ((bg (b * s22.1.sum) 0 (order.map fun k => gt s22.1 k) : Nat) : Int)) hb2.2 ?_))
  rintro _ rfl
  have hTab : a * s22.1.sum ≤ b * s22.1.sum := Int.mul_le_mul_of_nonneg_right pab (by omega)
  have htb := bg_mono hTab (l := order.map fun k => gt s22.1 k) (t := 0)
  have hTb : b * s22.1.sum ≤ s22.1.sum * 100 := by rw [Int.mul_comm]; exact Int.mul_le_mul_of_nonneg_left pb1 (by omega)
  have hTa0 : 0 < a * s22.1.sum := Int.mul_pos (by omega) hsum
  generalize htop : bg (a * s22.1.sum) 0 (order.map fun k => gt s22.1 k) = tp at *
  generalize hbot : bg (b * s22.1.sum) 0 (order.map fun k => gt s22.1 k) = bt at *
  have hol := hF.len
  obtain ⟨rc1, rc2⟩ := rep_c (n := (names.length : Int)) (by omega)
  refine band ⟨by omega, by omega, by show 1 * _ ≤ 16777216; omega⟩ (both (· = rep (["c"] : List Str) (names.length : Int)) rfl ?_)
  rintro _ rfl
  have hcb : cut order none (some (bt : Int)) = order.take bt := by rw [cut_take (by omega)]; rfl
  have hct : cut order none (some (tp : Int)) = order.take tp := by rw [cut_take (by omega)]; rfl
  rw [hcb, hct]
  have hrg : ∀ t, ∀ k ∈ order.take t, 0 ≤ k ∧ k < (names.length : Int) := fun t k hk => by
    have := hF.rg k (List.mem_of_mem_take hk); omega
  refine marks_ok (n := (names.length : Int)) (c := "b") (f0 := fun _ => "c") rc1 rc2 (hrg bt) fun s49 l49 h49 => ?_
  refine marks_ok (n := (names.length : Int)) (c := "a") (f0 := fun k => if k ∈ order.take bt then "b" else "c") l49 h49 (hrg tp) fun marks ml hmk => ?_
  have hMk : Mk order tp bt marks := by
    refine ⟨by omega, fun j k hj => ?_⟩
    have hk := hF.rg k (List.mem_of_getElem? hj)
    rw [hmk k hk.1 (by omega)]
    by_cases q : j < tp
    · rw [if_pos q, if_pos ((take_iff hF.nd hj).mpr q)]
    · rw [if_neg q, if_neg fun z => q ((take_iff hF.nd hj).mp z)]
      by_cases q2 : j < bt
      · rw [if_pos q2, if_pos ((take_iff hF.nd hj).mpr q2)]
      · rw [if_neg q2, if_neg fun z => q2 ((take_iff hF.nd hj).mp z)]
  have hCl : Cls marks (names.length : Int) := ⟨ml, fun k k0 k1 => by
    rw [hmk k k0 k1]
    by_cases q : k ∈ order.take tp
    · rw [if_pos q]; exact .inl rfl
    · rw [if_neg q]
      by_cases q2 : k ∈ order.take bt
      · rw [if_pos q2]; exact .inr (.inl rfl)
      · rw [if_neg q2]; exact .inr (.inr rfl)⟩
  have hNv : Nm names (s22.1.length : Int) := by rw [hvl]; exact hN'
  have hpv : s33.2.Perm ((rng 0 (s22.1.length : Int)).map fun k => (gt names k, gt s22.1 k)) := by rw [hvl]; exact h33
  have hcls := classes_ok (items := s33.2) (marks := marks) hNv hpv hF (by omega) (by omega) (by omega) pab pb1 (by rw [htop, hbot]; exact hMk)
  have hitem : ∀ x ∈ s33.2, x.1 ∈ names := fun x hx => by
    obtain ⟨k, hk, rfl⟩ := List.mem_map.mp (h33.mem_iff.mp hx)
    rw [mem_rng] at hk
    exact gt_mem hk.1 hk.2
  have hch := classesh_ok hN' (by omega) (by omega) hitem hcls
  refine band x0 (band x1 (band hch.1 (bcheck hch.2 ?_)))
  obtain ⟨ma1, ma2, ma3⟩ := mapA_inv (f := fun (s56 : (List Int)) (y55 : Int) => ((v__law_period s56).1, (v__law_period s56).2)) (ok := fun (s56 : (List Int)) (y55 : Int) => (o__law_period s56)) (Q := fun p => 1 ≤ p ∧ p ≤ 100) (fun s y => period_ok (pool := s) (fun z => 1 ≤ z.1 ∧ z.1 ≤ 100) fun z h => h) (rng 0 3) s36.2
  refine band (okr_lit (by decide) (by decide) (by decide) (by decide)) (band (by show _ < 16777216; rw [len_rng]; decide) (band ma1 (both (fun z => Ps z.1) ⟨by rw [ma2, len_rng]; rfl, ma3⟩ fun periods hPs => ?_)))
  have hlr := lrests_ok hCl hPs (by omega) (· = (rng 0 (names.length : Int)).map (rv marks periods.1)) rfl
  refine band hlr.1 (both (· = (rng 0 (names.length : Int)).map (rv marks periods.1)) hlr.2 ?_)
  rintro _ rfl
  have hdy := days_ok (pool := periods.2) (n := (names.length : Int)) (fun z => 1 ≤ z.1 ∧ z.1 ≤ 60) fun z h => h
  refine band hdy.1 (both (fun s => 1 ≤ s.1 ∧ s.1 ≤ 60) hdy.2 fun s61 h61 => ?_)
  have hlp := lplan_ok (days := s61.1) hCl hPs (by omega) (by omega) h61.2 (· = plan names marks periods.1 s61.1) rfl
  refine band hlp.1 (both (· = plan names marks periods.1 s61.1) hlp.2 ?_)
  rintro _ rfl
  have hcp := cplan_ok (days := s61.1) hN' hCl hPs (by omega) hcls (by omega) h61.2 (· = plan names marks periods.1 s61.1) rfl
  refine band x0 (band x1 (band hcp.1 (both (· = plan names marks periods.1 s61.1) hcp.2 ?_)))
  rintro _ rfl
  have hpz : oks (plan names marks periods.1 s61.1) := by show _ < 16777216; unfold plan; rw [List.length_map, len_rng]; omega
  refine band rfl (bcheck rfl (band ⟨hpz, fun _ _ => trivial, trivial⟩ (band hpz (band (fun _ _ => trivial) (band rfl (bcheck rfl (band (okr_lit (by decide) (by decide) (by decide) (by decide)) ?_)))))))
  refine bwalk (fun _ _ => True) trivial ?_ fun s71 _ => ?_
  · rintro pre y post s e _
    obtain ⟨_, y0, y1, _⟩ := rng_split e
    have hxp : okx periods.1 y := okx_of y0 (by rw [hPs.1]; exact y1)
    have hp := ps_at hPs y0 y1
    have hcnt : 0 ≤ cnt marks (sgt ("abc" : Str) y) ∧ cnt marks (sgt ("abc" : Str) y) ≤ 12 := by
      unfold cnt
      have := List.countP_le_length (p := fun z => decide (z = sgt ("abc" : Str) y)) (l := marks)
      omega
    have hsh : gt periods.1 y < 21 → _ := fun h => shares_ok (m := cnt marks (sgt ("abc" : Str) y)) (p := gt periods.1 y) hcnt.1 hcnt.2 hp.1 (by omega)
    refine ⟨⟨hxp, fun h => ⟨⟨y0, by rw [abc3]; exact y1, by omega⟩, hxp, (hsh (of_decide_eq_true h)).1⟩, fun _ => trivial, fun _ => trivial⟩, ?_⟩
    rw [shares_v]
    cases decide (gt periods.1 y < 21) <;> exact trivial
  refine band (dr_ok (by omega)) (both (fun s => 0 ≤ s.1 ∧ s.1 < names.length) (dr_in (by omega)) fun s72 h72 => ?_)
  have hnx := nexth_ok (percents := [a, b]) (day := (v__law_draw s72.2 100).1) hN' hCl hPs (by omega) rfl hcls h72.1 h72.2
  refine band (dr_ok (by decide)) (band hnx.1 (both (fun s => s.1 = false) (by dsimp only; rw [hnx.2]; rfl) fun s74 h74 => ?_))
  rw [h74]
  refine (fun h => ⟨⟨(fun h => nomatch h), fun _ => h.1⟩, h.2⟩ : ∀ {o : Prop} {z : Bool}, o ∧ P z → okI false True o ∧ P (cond false false z)) ?_
  by_cases h6 : (6 : Int) < names.length
  · rw [decide_eq_true h6]
    exact ⟨⟨fun _ => trivial, (fun h => nomatch h)⟩, hP⟩
  rw [decide_eq_false h6]
  refine (fun h => ⟨⟨(fun h => nomatch h), fun _ => h.1⟩, h.2⟩ : ∀ {o : Prop} {z : Bool}, o ∧ P z → okI false True o ∧ P (cond false true z)) ?_
  refine band (dr_ok (by decide)) (both (fun s => 1 ≤ s.1 ∧ s.1 ≤ 9) (by have := dr_in (p := s74.2) (m := 9) (by decide); dsimp only; omega) fun s76 h76 => ?_)
  refine band (dr_ok (by omega)) (both (fun s => 0 ≤ s.1 ∧ s.1 < s76.1) (dr_in (by omega)) fun s78 h78 => ?_)
  have hw1 := wholes_ok (each := s76.1) (spare := s78.1) hN' (by omega) hvl' hF (T := a * s22.1.sum) (by omega) hTa0 hsum htop.symm (by omega) h78.1 h78.2
  have hw2 := wholes_ok (each := s76.1) (spare := s78.1) hN' (by omega) hvl' hF (T := b * s22.1.sum) hTb (by omega) hsum hbot.symm (by omega) h78.1 h78.2
  refine band hw1.1 (bcheck hw1.2 (band hw2.1 ⟨trivial, ?_⟩))
  rw [hw2.2]; exact hP
theorem K24_LAW : ∀ ns : List Int, ns.length ≤ 63 → o_law ns ∧ v_law ns = true := fun _ hl => law_ok hl (fun z => z = true) rfl
end K24

set_option maxHeartbeats 2000000
/-! the text by places (printed by tr.py) -/
namespace K24
open PySem PySem.Spec PyProof.Rows L2 ZZ
open Evl (Ex)
def stm (i : Nat) : Stmt := PySem.Challenge.pw_oncecounted_k24_whole_counts_shared.main.body.getD i (.Pass ⟨0, 0, 0, 0⟩)
abbrev nm_by_value : List Str := ["items", "value", "item"]
theorem sc_by_value : FnScope nm_by_value ["items"] (defScope (stm 6)) := ⟨rfl, rfl, rfl, by decide +kernel, rfl, by decide +kernel, by decide +kernel⟩
abbrev nm_beginning : List Str := ["pairs", "percent", "total", "told", "length", "_", "value"]
theorem sc_beginning : FnScope nm_beginning ["pairs", "percent"] (defScope (stm 7)) := ⟨rfl, rfl, rfl, by decide +kernel, rfl, by decide +kernel, by decide +kernel⟩
abbrev nm_classes : List Str := ["items", "first", "second", "pairs", "bounds", "found", "place", "item", "_", "bound"]
theorem sc_classes : FnScope nm_classes ["items", "first", "second"] (defScope (stm 8)) := ⟨rfl, rfl, rfl, by decide +kernel, rfl, by decide +kernel, by decide +kernel⟩
abbrev nm_rests : List Str := ["items", "first", "second", "periods", "told", "found", "name", "period", "members", "number", "item", "one"]
theorem sc_rests : FnScope nm_rests ["items", "first", "second", "periods"] (defScope (stm 9)) := ⟨rfl, rfl, rfl, by decide +kernel, rfl, by decide +kernel, by decide +kernel⟩
abbrev nm_count_plan : List Str := ["items", "first", "second", "periods", "days", "told", "found", "day", "item"]
theorem sc_count_plan : FnScope nm_count_plan ["items", "first", "second", "periods", "days"] (defScope (stm 10)) := ⟨rfl, rfl, rfl, by decide +kernel, rfl, by decide +kernel, by decide +kernel⟩
abbrev nm_loads : List Str := ["plan", "items"]
theorem sc_loads : FnScope nm_loads ["plan"] (defScope (stm 11)) := ⟨rfl, rfl, rfl, by decide +kernel, rfl, by decide +kernel, by decide +kernel⟩
abbrev nm_next_count : List Str := ["items", "first", "second", "periods", "item", "day", "told", "rest", "period"]
theorem sc_next_count : FnScope nm_next_count ["items", "first", "second", "periods", "item", "day"] (defScope (stm 12)) := ⟨rfl, rfl, rfl, by decide +kernel, rfl, by decide +kernel, by decide +kernel⟩
abbrev nm_wanting : List Str := ["wishes", "height", "at", "wish"]
theorem sc_wanting : FnScope nm_wanting ["wishes", "height"] (defScope (stm 14)) := ⟨rfl, rfl, rfl, by decide +kernel, rfl, by decide +kernel, by decide +kernel⟩
abbrev nm_poured : List Str := ["wishes", "height", "wish"]
theorem sc_poured : FnScope nm_poured ["wishes", "height"] (defScope (stm 15)) := ⟨rfl, rfl, rfl, by decide +kernel, rfl, by decide +kernel, by decide +kernel⟩
abbrev nm_height_of : List Str := ["pool", "wishes", "low", "high", "middle"]
theorem sc_height_of : FnScope nm_height_of ["pool", "wishes"] (defScope (stm 16)) := ⟨rfl, rfl, rfl, by decide +kernel, rfl, by decide +kernel, by decide +kernel⟩
abbrev nm_fair_shares : List Str := ["pool", "wishes", "height", "shares", "left", "at", "wish"]
theorem sc_fair_shares : FnScope nm_fair_shares ["pool", "wishes"] (defScope (stm 17)) := ⟨rfl, rfl, rfl, by decide +kernel, rfl, by decide +kernel, by decide +kernel⟩
abbrev nm_unserved : List Str := ["pool", "wishes", "shares", "at", "wish"]
theorem sc_unserved : FnScope nm_unserved ["pool", "wishes"] (defScope (stm 18)) := ⟨rfl, rfl, rfl, by decide +kernel, rfl, by decide +kernel, by decide +kernel⟩
abbrev nm_level : List Str := ["pool", "wishes", "shares", "at"]
theorem sc_level : FnScope nm_level ["pool", "wishes"] (defScope (stm 19)) := ⟨rfl, rfl, rfl, by decide +kernel, rfl, by decide +kernel, by decide +kernel⟩
abbrev nm_rounds_of : List Str := ["pool", "wishes", "places", "height", "round_now"]
theorem sc_rounds_of : FnScope nm_rounds_of ["pool", "wishes"] (defScope (stm 20)) := ⟨rfl, rfl, rfl, by decide +kernel, rfl, by decide +kernel, by decide +kernel⟩
abbrev nm_fair_steps : List Str := ["pool", "wishes", "places", "beyond"]
theorem sc_fair_steps : FnScope nm_fair_steps ["pool", "wishes"] (defScope (stm 21)) := ⟨rfl, rfl, rfl, by decide +kernel, rfl, by decide +kernel, by decide +kernel⟩
abbrev nm_pieces_there : List Str := ["stock", "item", "count"]
theorem sc_pieces_there : FnScope nm_pieces_there ["stock"] (defScope (stm 23)) := ⟨rfl, rfl, rfl, by decide +kernel, rfl, by decide +kernel, by decide +kernel⟩
abbrev nm_pieces_needed : List Str := ["orders", "chosen", "needed", "at", "item", "count"]
theorem sc_pieces_needed : FnScope nm_pieces_needed ["orders", "chosen"] (defScope (stm 24)) := ⟨rfl, rfl, rfl, by decide +kernel, rfl, by decide +kernel, by decide +kernel⟩
abbrev nm_too_few : List Str := ["stock", "orders", "chosen", "there", "needed", "item"]
theorem sc_too_few : FnScope nm_too_few ["stock", "orders", "chosen"] (defScope (stm 25)) := ⟨rfl, rfl, rfl, by decide +kernel, rfl, by decide +kernel, by decide +kernel⟩
abbrev nm_fits : List Str := ["stock", "orders", "chosen"]
theorem sc_fits : FnScope nm_fits ["stock", "orders", "chosen"] (defScope (stm 26)) := ⟨rfl, rfl, rfl, by decide +kernel, rfl, by decide +kernel, by decide +kernel⟩
abbrev nm_later_places : List Str := ["orders", "chosen"]
theorem sc_later_places : FnScope nm_later_places ["orders", "chosen"] (defScope (stm 27)) := ⟨rfl, rfl, rfl, by decide +kernel, rfl, by decide +kernel, by decide +kernel⟩
abbrev nm_sets_from : List Str := ["stock", "orders", "chosen", "found", "at", "wider"]
theorem sc_sets_from : FnScope nm_sets_from ["stock", "orders", "chosen"] (defScope (stm 28)) := ⟨rfl, rfl, rfl, by decide +kernel, rfl, by decide +kernel, by decide +kernel⟩
abbrev nm_fitting_sets : List Str := ["stock", "orders"]
theorem sc_fitting_sets : FnScope nm_fitting_sets ["stock", "orders"] (defScope (stm 29)) := ⟨rfl, rfl, rfl, by decide +kernel, rfl, by decide +kernel, by decide +kernel⟩
abbrev nm_first_of_best : List Str := ["sets", "ranks", "best", "at", "rank"]
theorem sc_first_of_best : FnScope nm_first_of_best ["sets", "ranks"] (defScope (stm 30)) := ⟨rfl, rfl, rfl, by decide +kernel, rfl, by decide +kernel, by decide +kernel⟩
abbrev nm_most_whole : List Str := ["stock", "orders", "sets", "chosen"]
theorem sc_most_whole : FnScope nm_most_whole ["stock", "orders"] (defScope (stm 31)) := ⟨rfl, rfl, rfl, by decide +kernel, rfl, by decide +kernel, by decide +kernel⟩
abbrev nm_value_of : List Str := ["values", "chosen", "at"]
theorem sc_value_of : FnScope nm_value_of ["values", "chosen"] (defScope (stm 32)) := ⟨rfl, rfl, rfl, by decide +kernel, rfl, by decide +kernel, by decide +kernel⟩
abbrev nm_best_value : List Str := ["stock", "orders", "values", "sets", "chosen"]
theorem sc_best_value : FnScope nm_best_value ["stock", "orders", "values"] (defScope (stm 33)) := ⟨rfl, rfl, rfl, by decide +kernel, rfl, by decide +kernel, by decide +kernel⟩
abbrev nm_blocking : List Str := ["stock", "orders", "chosen", "at"]
theorem sc_blocking : FnScope nm_blocking ["stock", "orders", "chosen", "at"] (defScope (stm 34)) := ⟨rfl, rfl, rfl, by decide +kernel, rfl, by decide +kernel, by decide +kernel⟩
abbrev nm__law_pool : List Str := ["script", "many", "left", "pool", "jar", "k", "at", "cell"]
theorem sc__law_pool : FnScope nm__law_pool ["script", "many"] (defScope (stm 36)) := ⟨rfl, rfl, rfl, by decide +kernel, rfl, by decide +kernel, by decide +kernel⟩
abbrev nm__law_draw : List Str := ["pool", "many"]
theorem sc__law_draw : FnScope nm__law_draw ["pool", "many"] (defScope (stm 37)) := ⟨rfl, rfl, rfl, by decide +kernel, rfl, by decide +kernel, by decide +kernel⟩
abbrev nm__law_same : List Str := ["told", "due", "k"]
theorem sc__law_same : FnScope nm__law_same ["told", "due"] (defScope (stm 38)) := ⟨rfl, rfl, rfl, by decide +kernel, rfl, by decide +kernel, by decide +kernel⟩
abbrev nm__law_word : List Str := ["pool", "words", "letters", "one", "other", "size", "word", "k", "base"]
theorem sc__law_word : FnScope nm__law_word ["pool", "words"] (defScope (stm 39)) := ⟨rfl, rfl, rfl, by decide +kernel, rfl, by decide +kernel, by decide +kernel⟩
abbrev nm__law_values : List Str := ["pool", "many", "values", "k", "one", "other", "third"]
theorem sc__law_values : FnScope nm__law_values ["pool", "many"] (defScope (stm 40)) := ⟨rfl, rfl, rfl, by decide +kernel, rfl, by decide +kernel, by decide +kernel⟩
abbrev nm__law_falling : List Str := ["values", "order", "turn", "best", "k"]
theorem sc__law_falling : FnScope nm__law_falling ["values"] (defScope (stm 41)) := ⟨rfl, rfl, rfl, by decide +kernel, rfl, by decide +kernel, by decide +kernel⟩
abbrev nm__law_beginning : List Str := ["values", "order", "percent", "part", "many", "place"]
theorem sc__law_beginning : FnScope nm__law_beginning ["values", "order", "percent"] (defScope (stm 42)) := ⟨rfl, rfl, rfl, by decide +kernel, rfl, by decide +kernel, by decide +kernel⟩
abbrev nm__law_percent : List Str := ["pool", "values", "order", "place", "part", "percent", "k"]
theorem sc__law_percent : FnScope nm__law_percent ["pool", "values", "order"] (defScope (stm 43)) := ⟨rfl, rfl, rfl, by decide +kernel, rfl, by decide +kernel, by decide +kernel⟩
abbrev nm__law_rests : List Str := ["names", "marks", "periods", "rests_v", "seen", "k", "at"]
theorem sc__law_rests : FnScope nm__law_rests ["names", "marks", "periods"] (defScope (stm 44)) := ⟨rfl, rfl, rfl, by decide +kernel, rfl, by decide +kernel, by decide +kernel⟩
abbrev nm__law_plan : List Str := ["names", "rests_v", "days", "plan", "day", "k"]
theorem sc__law_plan : FnScope nm__law_plan ["names", "rests_v", "days"] (defScope (stm 45)) := ⟨rfl, rfl, rfl, by decide +kernel, rfl, by decide +kernel, by decide +kernel⟩
abbrev nm__law_classes_hold : List Str := ["items", "first", "second", "names", "marks", "due", "given", "k"]
theorem sc__law_classes_hold : FnScope nm__law_classes_hold ["items", "first", "second", "names", "marks"] (defScope (stm 46)) := ⟨rfl, rfl, rfl, by decide +kernel, rfl, by decide +kernel, by decide +kernel⟩
abbrev nm__law_shares_hold : List Str := ["many", "period", "wishes", "due", "low", "steps", "pool", "k"]
theorem sc__law_shares_hold : FnScope nm__law_shares_hold ["many", "period"] (defScope (stm 47)) := ⟨rfl, rfl, rfl, by decide +kernel, rfl, by decide +kernel, by decide +kernel⟩
abbrev nm__law_wholes_hold : List Str := ["names", "values", "order", "many", "each", "spare", "orders", "stock", "chosen", "given", "at", "more", "name", "k"]
theorem sc__law_wholes_hold : FnScope nm__law_wholes_hold ["names", "values", "order", "many", "each", "spare"] (defScope (stm 48)) := ⟨rfl, rfl, rfl, by decide +kernel, rfl, by decide +kernel, by decide +kernel⟩
abbrev nm__law_next_holds : List Str := ["items", "percents", "periods", "names", "rests_v", "at", "day", "due", "told", "e"]
theorem sc__law_next_holds : FnScope nm__law_next_holds ["items", "percents", "periods", "names", "rests_v", "at", "day"] (defScope (stm 49)) := ⟨rfl, rfl, rfl, by decide +kernel, rfl, by decide +kernel, by decide +kernel⟩
abbrev nm__law_period : List Str := ["pool", "small", "middle", "great"]
theorem sc__law_period : FnScope nm__law_period ["pool"] (defScope (stm 50)) := ⟨rfl, rfl, rfl, by decide +kernel, rfl, by decide +kernel, by decide +kernel⟩
abbrev nm__law_days : List Str := ["pool", "many", "days"]
theorem sc__law_days : FnScope nm__law_days ["pool", "many"] (defScope (stm 51)) := ⟨rfl, rfl, rfl, by decide +kernel, rfl, by decide +kernel, by decide +kernel⟩
abbrev nm_law : List Str := ["script", "pool", "many", "words", "k", "names", "values", "items", "turn", "order", "percents", "top", "both", "marks", "place", "periods", "rests_v", "days", "due", "told", "at", "each", "spare", "word", "percent", "day"]
theorem sc_law : FnScope nm_law ["script"] (defScope (stm 52)) := ⟨rfl, rfl, rfl, by decide +kernel, rfl, by decide +kernel, by decide +kernel⟩
structure Bx (M : Mo) : Prop where
  enumerate : M.mg "enumerate" = none
  int : M.mg "int" = none
  isinstance : M.mg "isinstance" = none
  len : M.mg "len" = none
  list : M.mg "list" = none
  max : M.mg "max" = none
  min : M.mg "min" = none
  range : M.mg "range" = none
  sorted : M.mg "sorted" = none
  str : M.mg "str" = none
  sum : M.mg "sum" = none
  tuple : M.mg "tuple" = none
  zip : M.mg "zip" = none
def c_by_value (M : Mo) : Ct (Bool × (List (Str × Int))) := { As := fun g => [(Sq g.1 (pr2 Tx I)) g.2], pre := fun g => o_by_value g.2, S := fun g => (Sq true (pr2 Tx I)) (v_by_value g.2) }

def c_beginning (M : Mo) : Ct ((List (Str × Int)) × Int) := { As := fun g => [(Sq true (pr2 Tx I)) g.1, I g.2], pre := fun g => o_beginning g.1 g.2, S := fun g => I (v_beginning g.1 g.2) }

def c_classes (M : Mo) : Ct (Bool × (List (Str × Int)) × Int × Int) := { As := fun g => [(Sq g.1 (pr2 Tx I)) g.2.1, I g.2.2.1, I g.2.2.2], pre := fun g => o_classes g.2.1 g.2.2.1 g.2.2.2, S := fun g => (Sq false (pr2 Tx Tx)) (v_classes g.2.1 g.2.2.1 g.2.2.2) }

def c_rests (M : Mo) : Ct ((List (Str × Int)) × Int × Int × (List Int)) := { As := fun g => [(Sq true (pr2 Tx I)) g.1, I g.2.1, I g.2.2.1, (Sq false I) g.2.2.2], pre := fun g => o_rests g.1 g.2.1 g.2.2.1 g.2.2.2, S := fun g => (Dc Tx (pr2 I I)) (v_rests g.1 g.2.1 g.2.2.1 g.2.2.2) }

def c_count_plan (M : Mo) : Ct ((List (Str × Int)) × Int × Int × (List Int) × Int) := { As := fun g => [(Sq true (pr2 Tx I)) g.1, I g.2.1, I g.2.2.1, (Sq false I) g.2.2.2.1, I g.2.2.2.2], pre := fun g => o_count_plan g.1 g.2.1 g.2.2.1 g.2.2.2.1 g.2.2.2.2, S := fun g => (Sq false (Sq false Tx)) (v_count_plan g.1 g.2.1 g.2.2.1 g.2.2.2.1 g.2.2.2.2) }

def c_loads (M : Mo) : Ct ((List (List Str))) := { As := fun g => [(Sq false (Sq false Tx)) g], pre := fun g => o_loads g, S := fun g => (Sq false I) (v_loads g) }

def c_next_count (M : Mo) : Ct ((List (Str × Int)) × Int × Int × (List Int) × Str × Int) := { As := fun g => [(Sq true (pr2 Tx I)) g.1, I g.2.1, I g.2.2.1, (Sq false I) g.2.2.2.1, Tx g.2.2.2.2.1, I g.2.2.2.2.2], pre := fun g => o_next_count g.1 g.2.1 g.2.2.1 g.2.2.2.1 g.2.2.2.2.1 g.2.2.2.2.2, S := fun g => I (v_next_count g.1 g.2.1 g.2.2.1 g.2.2.2.1 g.2.2.2.2.1 g.2.2.2.2.2) }
def cx_next_count (M : Mo) : Ct ((List (Str × Int)) × Int × Int × (List Int) × Str × Int) := { As := fun g => [(Sq true (pr2 Tx I)) g.1, I g.2.1, I g.2.2.1, (Sq false I) g.2.2.2.1, Tx g.2.2.2.2.1, I g.2.2.2.2.2], pre := fun g => x_next_count g.1 g.2.1 g.2.2.1 g.2.2.2.1 g.2.2.2.2.1 g.2.2.2.2.2, S := fun g => Tx g.2.2.2.2.1 }

def c_wanting (M : Mo) : Ct (Bool × (List Int) × Int) := { As := fun g => [(Sq g.1 I) g.2.1, I g.2.2], pre := fun g => o_wanting g.2.1 g.2.2, S := fun g => (Sq true I) (v_wanting g.2.1 g.2.2) }

def c_poured (M : Mo) : Ct (Bool × (List Int) × Int) := { As := fun g => [(Sq g.1 I) g.2.1, I g.2.2], pre := fun g => o_poured g.2.1 g.2.2, S := fun g => I (v_poured g.2.1 g.2.2) }

def c_height_of (M : Mo) : Ct (Bool × Int × (List Int)) := { As := fun g => [I g.2.1, (Sq g.1 I) g.2.2], pre := fun g => o_height_of g.2.1 g.2.2, S := fun g => I (v_height_of g.2.1 g.2.2) }

def c_fair_shares (M : Mo) : Ct (Bool × Int × (List Int)) := { As := fun g => [I g.2.1, (Sq g.1 I) g.2.2], pre := fun g => o_fair_shares g.2.1 g.2.2, S := fun g => (Sq false I) (v_fair_shares g.2.1 g.2.2) }

def c_unserved (M : Mo) : Ct (Bool × Int × (List Int)) := { As := fun g => [I g.2.1, (Sq g.1 I) g.2.2], pre := fun g => o_unserved g.2.1 g.2.2, S := fun g => (Sq true I) (v_unserved g.2.1 g.2.2) }

def c_level (M : Mo) : Ct (Bool × Int × (List Int)) := { As := fun g => [I g.2.1, (Sq g.1 I) g.2.2], pre := fun g => o_level g.2.1 g.2.2, S := fun g => (Oq I) (v_level g.2.1 g.2.2) }

def c_rounds_of (M : Mo) : Ct (Bool × Int × (List Int)) := { As := fun g => [I g.2.1, (Sq g.1 I) g.2.2], pre := fun g => o_rounds_of g.2.1 g.2.2, S := fun g => (Sq true I) (v_rounds_of g.2.1 g.2.2) }

def c_fair_steps (M : Mo) : Ct (Bool × Int × (List Int)) := { As := fun g => [I g.2.1, (Sq g.1 I) g.2.2], pre := fun g => o_fair_steps g.2.1 g.2.2, S := fun g => (Sq false (Oq I)) (v_fair_steps g.2.1 g.2.2) }

def c_pieces_there (M : Mo) : Ct (Bool × (List (Str × Int))) := { As := fun g => [(Sq g.1 (pr2 Tx I)) g.2], pre := fun g => o_pieces_there g.2, S := fun g => (Dc Tx I) (v_pieces_there g.2) }

def c_pieces_needed (M : Mo) : Ct (Bool × Bool × (List ((Str × Int) × (Str × Int))) × (List Int)) := { As := fun g => [(Sq g.1 (pr2 (pr2 Tx I) (pr2 Tx I))) g.2.2.1, (Sq g.2.1 I) g.2.2.2], pre := fun g => o_pieces_needed g.2.2.1 g.2.2.2, S := fun g => (Dc Tx I) (v_pieces_needed g.2.2.1 g.2.2.2) }

def c_too_few (M : Mo) : Ct (Bool × Bool × Bool × (List (Str × Int)) × (List ((Str × Int) × (Str × Int))) × (List Int)) := { As := fun g => [(Sq g.1 (pr2 Tx I)) g.2.2.2.1, (Sq g.2.1 (pr2 (pr2 Tx I) (pr2 Tx I))) g.2.2.2.2.1, (Sq g.2.2.1 I) g.2.2.2.2.2], pre := fun g => o_too_few g.2.2.2.1 g.2.2.2.2.1 g.2.2.2.2.2, S := fun g => (Sq false Tx) (v_too_few g.2.2.2.1 g.2.2.2.2.1 g.2.2.2.2.2) }

def c_fits (M : Mo) : Ct (Bool × (List (Str × Int)) × (List ((Str × Int) × (Str × Int))) × (List Int)) := { As := fun g => [(Sq true (pr2 Tx I)) g.2.1, (Sq g.1 (pr2 (pr2 Tx I) (pr2 Tx I))) g.2.2.1, (Sq false I) g.2.2.2], pre := fun g => o_fits g.2.1 g.2.2.1 g.2.2.2, S := fun g => Bo (v_fits g.2.1 g.2.2.1 g.2.2.2) }

def c_later_places (M : Mo) : Ct (Bool × (List ((Str × Int) × (Str × Int))) × (List Int)) := { As := fun g => [(Sq g.1 (pr2 (pr2 Tx I) (pr2 Tx I))) g.2.1, (Sq false I) g.2.2], pre := fun g => o_later_places g.2.1 g.2.2, S := fun g => (Sq true I) (v_later_places g.2.1 g.2.2) }

def c_sets_from (M : Mo) (n : Nat) : Ct (Bool × (List (Str × Int)) × (List ((Str × Int) × (Str × Int))) × (List Int)) := { As := fun g => [(Sq true (pr2 Tx I)) g.2.1, (Sq g.1 (pr2 (pr2 Tx I) (pr2 Tx I))) g.2.2.1, (Sq false I) g.2.2.2], pre := fun g => o_sets_from n g.2.1 g.2.2.1 g.2.2.2, S := fun g => (Sq true (Sq false I)) (v_sets_from n g.2.1 g.2.2.1 g.2.2.2) }

def c_fitting_sets (M : Mo) : Ct (Bool × (List (Str × Int)) × (List ((Str × Int) × (Str × Int)))) := { As := fun g => [(Sq true (pr2 Tx I)) g.2.1, (Sq g.1 (pr2 (pr2 Tx I) (pr2 Tx I))) g.2.2], pre := fun g => o_fitting_sets g.2.1 g.2.2, S := fun g => (Sq true (Sq false I)) (v_fitting_sets g.2.1 g.2.2) }

def c_first_of_best__0 (M : Mo) : Ct ((List (List Int)) × (List Int)) := { As := fun g => [(Sq true (Sq false I)) g.1, (Sq true I) g.2], pre := fun g => o_first_of_best__0 g.1 g.2, S := fun g => (Sq false I) (v_first_of_best__0 g.1 g.2) }

def c_most_whole (M : Mo) : Ct ((List (Str × Int)) × (List ((Str × Int) × (Str × Int)))) := { As := fun g => [(Sq true (pr2 Tx I)) g.1, (Sq false (pr2 (pr2 Tx I) (pr2 Tx I))) g.2], pre := fun g => o_most_whole g.1 g.2, S := fun g => (Sq false I) (v_most_whole g.1 g.2) }

def c_value_of (M : Mo) : Ct ((List Int) × (List Int)) := { As := fun g => [(Sq true I) g.1, (Sq false I) g.2], pre := fun g => o_value_of g.1 g.2, S := fun g => I (v_value_of g.1 g.2) }

def c_first_of_best__1 (M : Mo) : Ct ((List (List Int)) × (List (Int × Int))) := { As := fun g => [(Sq true (Sq false I)) g.1, (Sq true (pr2 I I)) g.2], pre := fun g => o_first_of_best__1 g.1 g.2, S := fun g => (Sq false I) (v_first_of_best__1 g.1 g.2) }

def c_best_value (M : Mo) : Ct ((List (Str × Int)) × (List ((Str × Int) × (Str × Int))) × (List Int)) := { As := fun g => [(Sq true (pr2 Tx I)) g.1, (Sq true (pr2 (pr2 Tx I) (pr2 Tx I))) g.2.1, (Sq true I) g.2.2], pre := fun g => o_best_value g.1 g.2.1 g.2.2, S := fun g => (Sq false I) (v_best_value g.1 g.2.1 g.2.2) }

def c_blocking (M : Mo) : Ct ((List (Str × Int)) × (List ((Str × Int) × (Str × Int))) × (List Int) × Int) := { As := fun g => [(Sq false (pr2 Tx I)) g.1, (Sq true (pr2 (pr2 Tx I) (pr2 Tx I))) g.2.1, (Sq false I) g.2.2.1, I g.2.2.2], pre := fun g => o_blocking g.1 g.2.1 g.2.2.1 g.2.2.2, S := fun g => (Sq false Tx) (v_blocking g.1 g.2.1 g.2.2.1 g.2.2.2) }

def c__law_pool (M : Mo) : Cn ((List Int) × Int) := { As := fun g => [(Sk M.K) g.1, I g.2], pre := fun g => o__law_pool g.1 g.2, C := fun g => Cl I (v__law_pool g.1 g.2) }

def c__law_draw (M : Mo) : Ct (Addr × (List Int) × Int) := { As := fun g => [At g.1, I g.2.2], pre := fun g => o__law_draw g.2.1 g.2.2, S := fun g => I (v__law_draw g.2.1 g.2.2).1, ω := fun g => [(g.1, Cl I g.2.1)], ω' := fun g => [(g.1, Cl I (v__law_draw g.2.1 g.2.2).2)] }

def c__law_word (M : Mo) : Ct (Addr × (List Int) × (List Str)) := { As := fun g => [At g.1, (Sq true Tx) g.2.2], pre := fun g => o__law_word g.2.1 g.2.2, S := fun g => Tx (v__law_word g.2.1 g.2.2).1, ω := fun g => [(g.1, Cl I g.2.1)], ω' := fun g => [(g.1, Cl I (v__law_word g.2.1 g.2.2).2)] }

def c__law_values (M : Mo) : Ct (Addr × (List Int) × Int) := { As := fun g => [At g.1, I g.2.2], pre := fun g => o__law_values g.2.1 g.2.2, S := fun g => (Sq true I) (v__law_values g.2.1 g.2.2).1, ω := fun g => [(g.1, Cl I g.2.1)], ω' := fun g => [(g.1, Cl I (v__law_values g.2.1 g.2.2).2)] }

def c__law_falling (M : Mo) : Ct ((List Int)) := { As := fun g => [(Sq true I) g], pre := fun g => o__law_falling g, S := fun g => (Sq true I) (v__law_falling g) }

def c__law_beginning (M : Mo) : Ct ((List Int) × (List Int) × Int) := { As := fun g => [(Sq true I) g.1, (Sq true I) g.2.1, I g.2.2], pre := fun g => o__law_beginning g.1 g.2.1 g.2.2, S := fun g => I (v__law_beginning g.1 g.2.1 g.2.2) }

def c__law_percent (M : Mo) : Ct (Addr × (List Int) × (List Int) × (List Int)) := { As := fun g => [At g.1, (Sq true I) g.2.2.1, (Sq true I) g.2.2.2], pre := fun g => o__law_percent g.2.1 g.2.2.1 g.2.2.2, S := fun g => I (v__law_percent g.2.1 g.2.2.1 g.2.2.2).1, ω := fun g => [(g.1, Cl I g.2.1)], ω' := fun g => [(g.1, Cl I (v__law_percent g.2.1 g.2.2.1 g.2.2.2).2)] }

def c__law_rests (M : Mo) : Ct ((List Str) × (List Str) × (List Int)) := { As := fun g => [(Sq true Tx) g.1, (Sq true Tx) g.2.1, (Sq true I) g.2.2], pre := fun g => o__law_rests g.1 g.2.1 g.2.2, S := fun g => (Sq true (pr2 I I)) (v__law_rests g.1 g.2.1 g.2.2) }

def c__law_plan (M : Mo) : Ct ((List Str) × (List (Int × Int)) × Int) := { As := fun g => [(Sq true Tx) g.1, (Sq true (pr2 I I)) g.2.1, I g.2.2], pre := fun g => o__law_plan g.1 g.2.1 g.2.2, S := fun g => (Sq false (Sq false Tx)) (v__law_plan g.1 g.2.1 g.2.2) }

def c__law_classes_hold (M : Mo) : Ct ((List (Str × Int)) × Int × Int × (List Str) × (List Str)) := { As := fun g => [(Sq true (pr2 Tx I)) g.1, I g.2.1, I g.2.2.1, (Sq true Tx) g.2.2.2.1, (Sq true Tx) g.2.2.2.2], pre := fun g => o__law_classes_hold g.1 g.2.1 g.2.2.1 g.2.2.2.1 g.2.2.2.2, S := fun g => Bo (v__law_classes_hold g.1 g.2.1 g.2.2.1 g.2.2.2.1 g.2.2.2.2) }

def c__law_shares_hold (M : Mo) : Ct (Int × Int) := { As := fun g => [I g.1, I g.2], pre := fun g => o__law_shares_hold g.1 g.2, S := fun g => Bo (v__law_shares_hold g.1 g.2) }

def c__law_wholes_hold (M : Mo) : Ct ((List Str) × (List Int) × (List Int) × Int × Int × Int) := { As := fun g => [(Sq true Tx) g.1, (Sq true I) g.2.1, (Sq true I) g.2.2.1, I g.2.2.2.1, I g.2.2.2.2.1, I g.2.2.2.2.2], pre := fun g => o__law_wholes_hold g.1 g.2.1 g.2.2.1 g.2.2.2.1 g.2.2.2.2.1 g.2.2.2.2.2, S := fun g => Bo (v__law_wholes_hold g.1 g.2.1 g.2.2.1 g.2.2.2.1 g.2.2.2.2.1 g.2.2.2.2.2) }

def c__law_next_holds (M : Mo) : Ct ((List (Str × Int)) × (List Int) × (List Int) × (List Str) × (List (Int × Int)) × Int × Int) := { As := fun g => [(Sq true (pr2 Tx I)) g.1, (Sq true I) g.2.1, (Sq true I) g.2.2.1, (Sq true Tx) g.2.2.2.1, (Sq true (pr2 I I)) g.2.2.2.2.1, I g.2.2.2.2.2.1, I g.2.2.2.2.2.2], pre := fun g => o__law_next_holds g.1 g.2.1 g.2.2.1 g.2.2.2.1 g.2.2.2.2.1 g.2.2.2.2.2.1 g.2.2.2.2.2.2, S := fun g => Bo (v__law_next_holds g.1 g.2.1 g.2.2.1 g.2.2.2.1 g.2.2.2.2.1 g.2.2.2.2.2.1 g.2.2.2.2.2.2) }

def c__law_period (M : Mo) : Ct (Addr × (List Int)) := { As := fun g => [At g.1], pre := fun g => o__law_period g.2, S := fun g => I (v__law_period g.2).1, ω := fun g => [(g.1, Cl I g.2)], ω' := fun g => [(g.1, Cl I (v__law_period g.2).2)] }

def c__law_days (M : Mo) : Ct (Addr × (List Int) × Int) := { As := fun g => [At g.1, I g.2.2], pre := fun g => o__law_days g.2.1 g.2.2, S := fun g => I (v__law_days g.2.1 g.2.2).1, ω := fun g => [(g.1, Cl I g.2.1)], ω' := fun g => [(g.1, Cl I (v__law_days g.2.1 g.2.2).2)] }

def c_law (M : Mo) : Ct ((List Int)) := { As := fun g => [(Sk M.K) g], pre := fun g => o_law g, S := fun g => Bo (v_law g) }
end K24

set_option maxHeartbeats 2000000
/-! walks (printed by tr.py) -/
namespace K24
open PySem PySem.Spec PyProof.Rows L2 ZZ
open Evl (Ex)
local macro_rules | `(tactic| walk_at "fg") => `(tactic| (repeat (first | exact Fg.nil | (with_reducible refine Fg.keep rfl ?_) | (with_reducible refine Fg.drop ?_))))
local macro_rules | `(tactic| walk_at "nonb") => `(tactic| first | exact nonb_I | exact nonb_No | exact nonb_Bo | exact nonb_S | exact nonb_seq | exact nonb_tup)
local macro_rules | `(tactic| walk_at "istb") => `(tactic| first | exact istb_sc | exact istb_seq | exact istb_tup)
theorem g_by_value {M : Mo} (Bl : Bx M) (P : Pr M "by_value" (stm 6) ["items"]) : Gd M 1 "by_value" ["items"] (c_by_value M) := by
  refine P.gd sc_by_value (by intro _; rfl) fun X B0 F0 D g hp hR hN => ?_
  obtain ⟨b0, items_⟩ := g
  have hz : Go (fun B z => Rt B F0 D.rt ((Sq true (pr2 Tx I)) z) []) B0 (v_by_value items_) := ⟨hR, fun _ _ _ e h => h.mono e⟩
  have hp : o_by_value items_ := hp
  clear hR
  dsimp only [mkΓ, c_by_value]
  unfold v_by_value at hz
  unfold o_by_value at hp
  obtain ⟨q4, q5, q6, q7, q8, q9, hp⟩ := hp
  exact ds_ret0 hz.h (DNc.frz (n_map (R := (pr2 Tx I)) (f := fun y1 => (y1.2, ((0 : Int) - y1.1))) (ok := fun y1 => True) [("value", 1), ("item", 2)] q9 q8 (i_seqL (Rs := (pr2 I Tx)) (DNc.frz (n_sortR (R := (pr2 I Tx)) (le := (leP leI leS)) (DNc.frz (n_map (R := (pr2 I Tx)) (f := fun y3 => (((0 : Int) - y3.2), y3.1)) (ok := fun y3 => True) [("item", 2), ("value", 1)] q7 q6 (i_seqL (Rs := (pr2 Tx I)) (d_name Has.z)) (blkOk_by (by show blkC nm_by_value (defScope (stm 6)) _ _ = true; decide +kernel)) (by repeat constructor) (fun y3 h1 => ⟨_, _, (g_two (g_name (Put.s (Put.s Put.z))) (g_name (Put.s Put.z))), by simp, (d_tup (a_cons (d_sub d_int (d_name (Has.s Has.z))) (a_cons (d_name (Has.s (Has.s Has.z))) a_nil)))⟩))) Bl.sorted))) (blkOk_by (by show blkC nm_by_value (defScope (stm 6)) _ _ = true; decide +kernel)) (by repeat constructor) (fun y1 h1 => ⟨_, _, (g_two (g_name (Put.s Put.z)) (g_name (Put.s (Put.s Put.z)))), by simp, (d_tup (a_cons (d_name (Has.s (Has.s Has.z))) (a_cons (d_sub d_int (d_name (Has.s Has.z))) a_nil)))⟩))) rfl

theorem g_beginning {M : Mo} (Bl : Bx M) (P : Pr M "beginning" (stm 7) ["pairs", "percent"]) : Gd M 1 "beginning" ["pairs", "percent"] (c_beginning M) := by
  refine P.gd sc_beginning (by intro _; rfl) fun X B0 F0 D g hp hR hN => ?_
  obtain ⟨pairs_, percent_⟩ := g
  have hz : Go (fun B z => Rt B F0 D.rt (I z) []) B0 (v_beginning pairs_ percent_) := ⟨hR, fun _ _ _ e h => h.mono e⟩
  have hp : o_beginning pairs_ percent_ := hp
  clear hR
  dsimp only [mkΓ, c_beginning]
  unfold v_beginning at hz
  unfold o_beginning at hp
  obtain ⟨q12, q13, hp⟩ := hp
  refine y_asg (R := I) (v := (pairs_.map fun y1 => y1.2).sum) (d_sumB (DNc.frz (n_map (R := I) (f := fun y1 => y1.2) (ok := fun y1 => True) [("_", 5), ("value", 6)] q13 q12 (i_seqL (Rs := (pr2 Tx I)) (d_name Has.z)) (blkOk_by (by show blkC nm_beginning (defScope (stm 7)) _ _ = true; decide +kernel)) (by repeat constructor) (fun y1 h1 => ⟨_, _, (g_two (g_name (Put.s (Put.s (Put.s (Put.s (Put.s Put.z)))))) (g_name (Put.s (Put.s (Put.s (Put.s (Put.s (Put.s Put.z)))))))), by simp, (d_name (Has.s (Has.s (Has.s (Has.s (Has.s (Has.s Has.z)))))))⟩))) Bl.sum) hz hp (fun total_2 hz hp => ⟨_, (Put.s (Put.s Put.z)), ?_⟩)
  refine y_asg (R := I) (v := (0 : Int)) d_int hz hp (fun told_3 hz hp => ⟨_, (Put.s (Put.s (Put.s Put.z))), ?_⟩)
  obtain ⟨q11, hp⟩ := hp
  refine y_forC (Rb := I) (fun s4 : Int => ([("pairs", some ((Sq true (pr2 Tx I)) pairs_)), ("percent", some (I percent_)), ("total", some (I total_2)), ("told", some (I s4)), ("length", none), ("_", none), ("value", none)] : En)) (fun s4 : Int => ([] : Ws)) (i_rng1L q11 (d_add (d_len (Rs := (pr2 Tx I)) (d_name Has.z) Bl.len) d_int) Bl.range) (by walk_at "fg") (List.Perm.refl _) (by intro _; rfl) hz hp ?_ ?_
  · rintro ⟨Dn, Dr, Dk, Dc⟩ B1 hB1 hrt s4 y5 hp hz
    obtain rfl : Dr = _ := hrt
    refine ⟨_, _, (g_name (Put.s (Put.s (Put.s (Put.s Put.z))))), ?_⟩
    obtain ⟨q8, q9, hp⟩ := hp
    refine y_ite (t_ge (d_mul (d_name (Has.s (Has.s (Has.s Has.z)))) d_int q8) (d_mul (d_name (Has.s (Has.s Has.z))) (d_name (Has.s Has.z)) q9)) hz hp (fun hk hz hp => ?_) (fun hk hz hp => ?_)
    · exact ds_ret0 (T := I y5) hz.h.h (d_name (Has.s (Has.s (Has.s (Has.s Has.z))))) rfl
    · refine ds_next ?_
      obtain ⟨q7, hp⟩ := hp
      refine y_augAdd (Has.s (Has.s (Has.s Has.z))) (d_ixU (d_at (Rs := (pr2 Tx I)) q7 (d_name Has.z) (d_name (Has.s (Has.s (Has.s (Has.s Has.z)))))) d_int rfl) hz hp (fun told_6 hz hp => ⟨_, (Put.s (Put.s (Put.s Put.z))), ?_⟩)
      exact y_re (by walk_at "fg") (List.Perm.refl _) hz.h.1
  · intro s10 hz hp
    exact ds_ret0 (T := I (pairs_.length : Int)) hz.h (d_len (Rs := (pr2 Tx I)) (d_name Has.z) Bl.len) rfl

theorem g_classes {M : Mo} (Bl : Bx M) (P : Pr M "classes" (stm 8) ["items", "first", "second"]) (G_by_value : Gd M 1 "by_value" ["items"] (c_by_value M)) (G_beginning : Gd M 1 "beginning" ["pairs", "percent"] (c_beginning M)) (K_CLASSES : Kg M "CLASSES" (Mq M.K false Tx g_CLASSES)) : Gd M 2 "classes" ["items", "first", "second"] (c_classes M) := by
  refine P.gd sc_classes (by intro _; rfl) fun X B0 F0 D g hp hR hN => ?_
  obtain ⟨b0, items_, first_, second_⟩ := g
  have hz : Go (fun B z => Rt B F0 D.rt ((Sq false (pr2 Tx Tx)) z) []) B0 (v_classes items_ first_ second_) := ⟨hR, fun _ _ _ e h => h.mono e⟩
  have hp : o_classes items_ first_ second_ := hp
  clear hR
  dsimp only [mkΓ, c_classes]
  unfold v_classes at hz
  unfold o_classes at hp
  obtain ⟨q16, hp⟩ := hp
  refine y_asg (R := (Sq true (pr2 Tx I))) (v := (v_by_value items_)) (d_callQ (t := c_by_value M) (b0, items_) G_by_value q16 (a_cons (d_name Has.z) a_nil)) hz hp (fun pairs_1 hz hp => ⟨_, (Put.s (Put.s (Put.s Put.z))), ?_⟩)
  obtain ⟨q14, q15, hp⟩ := hp
  refine y_asg (R := (pr2 I I)) (v := ((v_beginning pairs_1 first_), (v_beginning pairs_1 second_))) (d_tup (a_cons (d_callQ (t := c_beginning M) (pairs_1, first_) G_beginning q14 (a_cons (d_name (Has.s (Has.s (Has.s Has.z)))) (a_cons (d_name (Has.s Has.z)) a_nil))) (a_cons (d_callQ (t := c_beginning M) (pairs_1, second_) G_beginning q15 (a_cons (d_name (Has.s (Has.s (Has.s Has.z)))) (a_cons (d_name (Has.s (Has.s Has.z))) a_nil))) a_nil))) hz hp (fun bounds_2 hz hp => ⟨_, (Put.s (Put.s (Put.s (Put.s Put.z)))), ?_⟩)
  refine y_own (Cv := Cl (pr2 Tx Tx)) (v := ([] : List (Str × Str))) (DN.c (n_lstQ (pr2 Tx Tx) ([] : List (Str × Str)) a_nil)) hz hp (fun found_4 hz hp l_found2 => ⟨_, (Put.s (Put.s (Put.s (Put.s (Put.s Put.z))))), ?_⟩)
  refine y_for (Rb := (pr2 I (pr2 Tx I))) (fun s5 : (List (Str × Str)) => ([("items", some ((Sq b0 (pr2 Tx I)) items_)), ("first", some (I first_)), ("second", some (I second_)), ("pairs", some ((Sq true (pr2 Tx I)) pairs_1)), ("bounds", some ((pr2 I I) bounds_2)), ("found", some (At l_found2)), ("place", none), ("item", none), ("_", none), ("bound", none)] : En)) (fun s5 : (List (Str × Str)) => [(l_found2, Cl (pr2 Tx Tx) s5)]) (i_enmL (Rs := (pr2 Tx I)) (d_name (Has.s (Has.s (Has.s Has.z)))) Bl.enumerate) (by walk_at "fg") (List.Perm.refl _) (by intro _; rfl) hz hp ?_ ?_
  · rintro ⟨Dn, Dr, Dk, Dc⟩ B1 hB1 hrt s5 y6 hp hz
    obtain rfl : Dr = _ := hrt
    refine ⟨_, _, (g_two (g_name (Put.s (Put.s (Put.s (Put.s (Put.s (Put.s Put.z))))))) (g_two (g_name (Put.s (Put.s (Put.s (Put.s (Put.s (Put.s (Put.s Put.z)))))))) (g_name (Put.s (Put.s (Put.s (Put.s (Put.s (Put.s (Put.s (Put.s Put.z))))))))))), ?_⟩
    obtain ⟨q9, q10, q11, q12, hp⟩ := hp
    refine y_app (R := (pr2 Tx Tx)) (v := (y6.2.1, (gt g_CLASSES (((([bounds_2.1, bounds_2.2]).filter fun y7 => (decide (y7 ≤ y6.1))).map fun y7 => y7).length : Int)))) q9 hz hp (d_name (Has.s (Has.s (Has.s (Has.s (Has.s Has.z)))))) Hold.z (d_tup (a_cons (d_name (Has.s (Has.s (Has.s (Has.s (Has.s (Has.s (Has.s Has.z)))))))) (a_cons (d_atG q12 (d_glob K_CLASSES) (d_len (Rs := I) (DNc.frz (n_flt (R := I) (f := fun y7 => y7) (pr := fun y7 => (decide (y7 ≤ y6.1))) (ok := fun y7 => True) (ok2 := fun y7 => True) [("bound", 9)] q11 q10 (i_seqL (Rs := I) (d_tupQ (R := I) (d_name (Has.s (Has.s (Has.s (Has.s Has.z))))))) (blkOk_by (by show blkC nm_classes (defScope (stm 8)) _ _ = true; decide +kernel)) (by repeat constructor) (fun y7 h1 h2 => ⟨_, _, (g_name (Put.s (Put.s (Put.s (Put.s (Put.s (Put.s (Put.s (Put.s (Put.s Put.z)))))))))), by simp, (t_le (d_name (Has.s (Has.s (Has.s (Has.s (Has.s (Has.s (Has.s (Has.s (Has.s Has.z)))))))))) (d_name (Has.s (Has.s (Has.s (Has.s (Has.s (Has.s Has.z)))))))), fun hc => (d_name (Has.s (Has.s (Has.s (Has.s (Has.s (Has.s (Has.s (Has.s (Has.s Has.z))))))))))⟩))) Bl.len)) a_nil))) (fun found_8 hz hp => ⟨_, Swp.z, ?_⟩)
    exact y_re (by walk_at "fg") (List.Perm.refl _) hz.h
  · intro s13 hz hp
    refine ds_freeze (Upg.s (Upg.s (Upg.s (Upg.s (Upg.s Upg.z))))) Tak.z ?_
    exact ds_ret0 (T := (Sq false (pr2 Tx Tx)) (srt (leP leS leS) s13)) hz.h (d_tuple (Rs := (pr2 Tx Tx)) (DNc.frz (n_sortR (R := (pr2 Tx Tx)) (le := (leP leS leS)) (d_name (Has.s (Has.s (Has.s (Has.s (Has.s Has.z)))))) Bl.sorted)) Bl.tuple) rfl

theorem g_rests {M : Mo} (Bl : Bx M) (P : Pr M "rests" (stm 9) ["items", "first", "second", "periods"]) (G_classes : Gd M 2 "classes" ["items", "first", "second"] (c_classes M)) (K_CLASSES : Kg M "CLASSES" (Mq M.K false Tx g_CLASSES)) : Gd M 3 "rests" ["items", "first", "second", "periods"] (c_rests M) := by
  refine P.gd sc_rests (by intro _; rfl) fun X B0 F0 D g hp hR hN => ?_
  obtain ⟨items_, first_, second_, periods_⟩ := g
  have hz : Go (fun B z => Rt B F0 D.rt ((Dc Tx (pr2 I I)) z) []) B0 (v_rests items_ first_ second_ periods_) := ⟨hR, fun _ _ _ e h => h.mono e⟩
  have hp : o_rests items_ first_ second_ periods_ := hp
  clear hR
  dsimp only [mkΓ, c_rests]
  unfold v_rests at hz
  unfold o_rests at hp
  obtain ⟨q18, hp⟩ := hp
  refine y_asg (R := (Sq false (pr2 Tx Tx))) (v := (v_classes items_ first_ second_)) (d_callQ (t := c_classes M) (true, items_, first_, second_) G_classes q18 (a_cons (d_name Has.z) (a_cons (d_name (Has.s Has.z)) (a_cons (d_name (Has.s (Has.s Has.z))) a_nil)))) hz hp (fun told_1 hz hp => ⟨_, (Put.s (Put.s (Put.s (Put.s Put.z)))), ?_⟩)
  refine y_own (Cv := Cd Tx (pr2 I I)) (v := ([] : List (Str × (Int × Int)))) n_dict0 hz hp (fun found_3 hz hp l_found1 => ⟨_, (Put.s (Put.s (Put.s (Put.s (Put.s Put.z))))), ?_⟩)
  refine y_for (Rb := (pr2 Tx I)) (fun s4 : (List (Str × (Int × Int))) => ([("items", some ((Sq true (pr2 Tx I)) items_)), ("first", some (I first_)), ("second", some (I second_)), ("periods", some ((Sq false I) periods_)), ("told", some ((Sq false (pr2 Tx Tx)) told_1)), ("found", some (At l_found1)), ("name", none), ("period", none), ("members", none), ("number", none), ("item", none), ("one", none)] : En)) (fun s4 : (List (Str × (Int × Int))) => [(l_found1, Cd Tx (pr2 I I) s4)]) (i_zipG (R := Tx) (Rb := I) (d_glob K_CLASSES) (d_name (Has.s (Has.s (Has.s Has.z)))) Bl.zip) (by walk_at "fg") (List.Perm.refl _) (by intro _; rfl) hz hp ?_ ?_
  · rintro ⟨Dn, Dr, Dk, Dc⟩ B1 hB1 hrt s4 y5 hp hz
    obtain rfl : Dr = _ := hrt
    refine ⟨_, _, (g_two (g_name (Put.s (Put.s (Put.s (Put.s (Put.s (Put.s Put.z))))))) (g_name (Put.s (Put.s (Put.s (Put.s (Put.s (Put.s (Put.s Put.z))))))))), ?_⟩
    obtain ⟨q15, q16, hp⟩ := hp
    refine y_flt (R := Tx) (f := fun y6 => y6.1) (pr := fun y6 => (decide (y6.2 = y5.1))) (ok := fun y6 => True) (ok2 := fun y6 => True) [("item", 10), ("one", 11)] q16 q15 hz hp (i_seqL (Rs := (pr2 Tx Tx)) (d_name (Has.s (Has.s (Has.s (Has.s Has.z)))))) (blkOk_by (by show blkC nm_rests (defScope (stm 9)) _ _ = true; decide +kernel)) (by repeat constructor) (fun y6 h1 h2 => ⟨_, _, (g_two (g_name (Put.s (Put.s (Put.s (Put.s (Put.s (Put.s (Put.s (Put.s (Put.s (Put.s Put.z))))))))))) (g_name (Put.s (Put.s (Put.s (Put.s (Put.s (Put.s (Put.s (Put.s (Put.s (Put.s (Put.s Put.z))))))))))))), by simp, (t_eqS (d_name (Has.s (Has.s (Has.s (Has.s (Has.s (Has.s (Has.s (Has.s (Has.s (Has.s (Has.s Has.z)))))))))))) (d_name (Has.s (Has.s (Has.s (Has.s (Has.s (Has.s Has.z)))))))), fun hc => (d_name (Has.s (Has.s (Has.s (Has.s (Has.s (Has.s (Has.s (Has.s (Has.s (Has.s Has.z)))))))))))⟩) (Put.s (Put.s (Put.s (Put.s (Put.s (Put.s (Put.s (Put.s Put.z)))))))) (fun members_7 hz hp l_members7 => ⟨_, (Put.s (Put.s (Put.s (Put.s (Put.s (Put.s (Put.s (Put.s Put.z)))))))), ?_⟩)
    refine ds_freeze (Upg.s (Upg.s (Upg.s (Upg.s (Upg.s (Upg.s (Upg.s (Upg.s Upg.z)))))))) Tak.z ?_
    refine y_for (Rb := (pr2 I Tx)) (fun s9 : (List (Str × (Int × Int))) => ([("items", some ((Sq true (pr2 Tx I)) items_)), ("first", some (I first_)), ("second", some (I second_)), ("periods", some ((Sq false I) periods_)), ("told", some ((Sq false (pr2 Tx Tx)) told_1)), ("found", some (At l_found1)), ("name", some (Tx y5.1)), ("period", some (I y5.2)), ("members", some ((Sq true Tx) members_7)), ("number", none), ("item", none), ("one", none)] : En)) (fun s9 : (List (Str × (Int × Int))) => [(l_found1, Cd Tx (pr2 I I) s9)]) (i_enmL (Rs := Tx) (d_name (Has.s (Has.s (Has.s (Has.s (Has.s (Has.s (Has.s (Has.s Has.z))))))))) Bl.enumerate) (by walk_at "fg") (List.Perm.refl _) (by intro _; rfl) hz hp ?_ ?_
    · rintro ⟨Dn, Dr, Dk, Dc⟩ B1 hB1 hrt s9 y10 hp hz
      obtain rfl : Dr = _ := hrt
      refine ⟨_, _, (g_two (g_name (Put.s (Put.s (Put.s (Put.s (Put.s (Put.s (Put.s (Put.s (Put.s Put.z)))))))))) (g_name (Put.s (Put.s (Put.s (Put.s (Put.s (Put.s (Put.s (Put.s (Put.s (Put.s Put.z)))))))))))), ?_⟩
      obtain ⟨q12, q13, hp⟩ := hp
      refine y_dput (Rk := Tx) (Rv := (pr2 I I)) q13 hz hp (d_tup (a_cons (d_mod (d_name (Has.s (Has.s (Has.s (Has.s (Has.s (Has.s (Has.s (Has.s (Has.s Has.z)))))))))) (d_name (Has.s (Has.s (Has.s (Has.s (Has.s (Has.s (Has.s Has.z)))))))) q12) (a_cons (d_name (Has.s (Has.s (Has.s (Has.s (Has.s (Has.s (Has.s Has.z)))))))) a_nil))) (d_name (Has.s (Has.s (Has.s (Has.s (Has.s Has.z)))))) (d_name (Has.s (Has.s (Has.s (Has.s (Has.s (Has.s (Has.s (Has.s (Has.s (Has.s Has.z))))))))))) Hold.z (fun found_11 hz hp => ⟨_, Swp.z, ?_⟩)
      exact y_re (by walk_at "fg") (List.Perm.refl _) hz.h
    · intro s14 hz hp
      exact y_re (by walk_at "fg") (List.Perm.refl _) hz.h
  · intro s17 hz hp
    refine ds_freezeD (Upg.s (Upg.s (Upg.s (Upg.s (Upg.s Upg.z))))) Tak.z ?_
    exact ds_ret0 (T := (Dc Tx (pr2 I I)) s17) hz.h (d_name (Has.s (Has.s (Has.s (Has.s (Has.s Has.z)))))) rfl

theorem g_count_plan {M : Mo} (Bl : Bx M) (P : Pr M "count_plan" (stm 10) ["items", "first", "second", "periods", "days"]) (G_rests : Gd M 3 "rests" ["items", "first", "second", "periods"] (c_rests M)) : Gd M 4 "count_plan" ["items", "first", "second", "periods", "days"] (c_count_plan M) := by
  refine P.gd sc_count_plan (by intro _; rfl) fun X B0 F0 D g hp hR hN => ?_
  obtain ⟨items_, first_, second_, periods_, days_⟩ := g
  have hz : Go (fun B z => Rt B F0 D.rt ((Sq false (Sq false Tx)) z) []) B0 (v_count_plan items_ first_ second_ periods_ days_) := ⟨hR, fun _ _ _ e h => h.mono e⟩
  have hp : o_count_plan items_ first_ second_ periods_ days_ := hp
  clear hR
  dsimp only [mkΓ, c_count_plan]
  unfold v_count_plan at hz
  unfold o_count_plan at hp
  obtain ⟨q14, hp⟩ := hp
  refine y_asg (R := (Dc Tx (pr2 I I))) (v := (v_rests items_ first_ second_ periods_)) (d_callQ (t := c_rests M) (items_, first_, second_, periods_) G_rests q14 (a_cons (d_name Has.z) (a_cons (d_name (Has.s Has.z)) (a_cons (d_name (Has.s (Has.s Has.z))) (a_cons (d_name (Has.s (Has.s (Has.s Has.z)))) a_nil))))) hz hp (fun told_1 hz hp => ⟨_, (Put.s (Put.s (Put.s (Put.s (Put.s Put.z))))), ?_⟩)
  refine y_own (Cv := Cl (Sq false Tx)) (v := ([] : List (List Str))) (DN.c (n_lstQ (Sq false Tx) ([] : List (List Str)) a_nil)) hz hp (fun found_3 hz hp l_found1 => ⟨_, (Put.s (Put.s (Put.s (Put.s (Put.s (Put.s Put.z)))))), ?_⟩)
  obtain ⟨q13, hp⟩ := hp
  refine y_for (Rb := I) (fun s4 : (List (List Str)) => ([("items", some ((Sq true (pr2 Tx I)) items_)), ("first", some (I first_)), ("second", some (I second_)), ("periods", some ((Sq false I) periods_)), ("days", some (I days_)), ("told", some ((Dc Tx (pr2 I I)) told_1)), ("found", some (At l_found1)), ("day", none), ("item", none)] : En)) (fun s4 : (List (List Str)) => [(l_found1, Cl (Sq false Tx) s4)]) (i_rng1L q13 (d_name (Has.s (Has.s (Has.s (Has.s Has.z))))) Bl.range) (by walk_at "fg") (List.Perm.refl _) (by intro _; rfl) hz hp ?_ ?_
  · rintro ⟨Dn, Dr, Dk, Dc⟩ B1 hB1 hrt s4 y5 hp hz
    obtain rfl : Dr = _ := hrt
    refine ⟨_, _, (g_name (Put.s (Put.s (Put.s (Put.s (Put.s (Put.s (Put.s Put.z)))))))), ?_⟩
    obtain ⟨q8, q9, q10, q11, hp⟩ := hp
    refine y_app (R := (Sq false Tx)) (v := (((srt leS (told_1.map Prod.fst)).filter fun y6 => (decide ((y5 % (dgv told_1 y6).2) = (dgv told_1 y6).1))).map fun y6 => y6)) q8 hz hp (d_name (Has.s (Has.s (Has.s (Has.s (Has.s (Has.s Has.z))))))) Hold.z (d_tuple (Rs := Tx) (DNc.frz (n_flt (R := Tx) (f := fun y6 => y6) (pr := fun y6 => (decide ((y5 % (dgv told_1 y6).2) = (dgv told_1 y6).1))) (ok := fun y6 => ((dget told_1 y6).isSome = true) ∧ (0 < (dgv told_1 y6).2) ∧ ((dget told_1 y6).isSome = true)) (ok2 := fun y6 => True) [("item", 8)] q11 q10 (i_seqL (Rs := Tx) (DNc.frz (n_sortD_S (Rv := (pr2 I I)) q9 (d_name (Has.s (Has.s (Has.s (Has.s (Has.s Has.z)))))) Bl.sorted))) (blkOk_by (by show blkC nm_count_plan (defScope (stm 10)) _ _ = true; decide +kernel)) (by repeat constructor) (fun y6 h1 h2 => ⟨_, _, (g_name (Put.s (Put.s (Put.s (Put.s (Put.s (Put.s (Put.s (Put.s Put.z))))))))), by simp, (t_eqI (d_mod (d_name (Has.s (Has.s (Has.s (Has.s (Has.s (Has.s (Has.s Has.z)))))))) (d_ixU (d_dget (Rv := (pr2 I I)) h1.1 (d_name (Has.s (Has.s (Has.s (Has.s (Has.s Has.z)))))) (d_name (Has.s (Has.s (Has.s (Has.s (Has.s (Has.s (Has.s (Has.s Has.z)))))))))) d_int rfl) h1.2.1) (d_ixU (d_dget (Rv := (pr2 I I)) h1.2.2 (d_name (Has.s (Has.s (Has.s (Has.s (Has.s Has.z)))))) (d_name (Has.s (Has.s (Has.s (Has.s (Has.s (Has.s (Has.s (Has.s Has.z)))))))))) d_int rfl)), fun hc => (d_name (Has.s (Has.s (Has.s (Has.s (Has.s (Has.s (Has.s (Has.s Has.z)))))))))⟩))) Bl.tuple) (fun found_7 hz hp => ⟨_, Swp.z, ?_⟩)
    exact y_re (by walk_at "fg") (List.Perm.refl _) hz.h
  · intro s12 hz hp
    refine ds_freeze (Upg.s (Upg.s (Upg.s (Upg.s (Upg.s (Upg.s Upg.z)))))) Tak.z ?_
    exact ds_ret0 (T := (Sq false (Sq false Tx)) s12) hz.h (d_tuple (Rs := (Sq false Tx)) (d_name (Has.s (Has.s (Has.s (Has.s (Has.s (Has.s Has.z))))))) Bl.tuple) rfl

theorem g_loads {M : Mo} (Bl : Bx M) (P : Pr M "loads" (stm 11) ["plan"]) : Gd M 1 "loads" ["plan"] (c_loads M) := by
  refine P.gd sc_loads (by intro _; rfl) fun X B0 F0 D g hp hR hN => ?_
  generalize hg0 : g = plan_ at *
  have hz : Go (fun B z => Rt B F0 D.rt ((Sq false I) z) []) B0 (v_loads plan_) := ⟨hR, fun _ _ _ e h => h.mono e⟩
  have hp : o_loads plan_ := hp
  clear hR
  dsimp only [mkΓ, c_loads]
  unfold v_loads at hz
  unfold o_loads at hp
  obtain ⟨q2, q3, hp⟩ := hp
  exact ds_ret0 hz.h (d_tuple (Rs := I) (DNc.frz (n_map (R := I) (f := fun y1 => (y1.length : Int)) (ok := fun y1 => True) [("items", 1)] q3 q2 (i_seqL (Rs := (Sq false Tx)) (d_name Has.z)) (blkOk_by (by show blkC nm_loads (defScope (stm 11)) _ _ = true; decide +kernel)) (by repeat constructor) (fun y1 h1 => ⟨_, _, (g_name (Put.s Put.z)), by simp, (d_len (Rs := Tx) (d_name (Has.s Has.z)) Bl.len)⟩))) Bl.tuple) rfl
end K24

set_option maxHeartbeats 2000000
/-! walks (printed by tr.py) -/
namespace K24
open PySem PySem.Spec PyProof.Rows L2 ZZ
open Evl (Ex)
local macro_rules | `(tactic| walk_at "fg") => `(tactic| (repeat (first | exact Fg.nil | (with_reducible refine Fg.keep rfl ?_) | (with_reducible refine Fg.drop ?_))))
local macro_rules | `(tactic| walk_at "nonb") => `(tactic| first | exact nonb_I | exact nonb_No | exact nonb_Bo | exact nonb_S | exact nonb_seq | exact nonb_tup)
local macro_rules | `(tactic| walk_at "istb") => `(tactic| first | exact istb_sc | exact istb_seq | exact istb_tup)
theorem g_next_count {M : Mo} (Bl : Bx M) (P : Pr M "next_count" (stm 12) ["items", "first", "second", "periods", "item", "day"]) (G_rests : Gd M 3 "rests" ["items", "first", "second", "periods"] (c_rests M)) : Gd M 4 "next_count" ["items", "first", "second", "periods", "item", "day"] (c_next_count M) := by
  refine P.gd sc_next_count (by intro _; rfl) fun X B0 F0 D g hp hR hN => ?_
  obtain ⟨items_, first_, second_, periods_, item_, day_⟩ := g
  have hz : Go (fun B z => Rt B F0 D.rt (I z) []) B0 (v_next_count items_ first_ second_ periods_ item_ day_) := ⟨hR, fun _ _ _ e h => h.mono e⟩
  have hp : o_next_count items_ first_ second_ periods_ item_ day_ := hp
  clear hR
  dsimp only [mkΓ, c_next_count]
  unfold v_next_count at hz
  unfold o_next_count at hp
  obtain ⟨q5, hp⟩ := hp
  refine y_asg (R := (Dc Tx (pr2 I I))) (v := (v_rests items_ first_ second_ periods_)) (d_callQ (t := c_rests M) (items_, first_, second_, periods_) G_rests q5 (a_cons (d_name Has.z) (a_cons (d_name (Has.s Has.z)) (a_cons (d_name (Has.s (Has.s Has.z))) (a_cons (d_name (Has.s (Has.s (Has.s Has.z)))) a_nil))))) hz hp (fun told_1 hz hp => ⟨_, (Put.s (Put.s (Put.s (Put.s (Put.s (Put.s Put.z)))))), ?_⟩)
  refine y_ite (t_dnotin (Rv := (pr2 I I)) (d_name (Has.s (Has.s (Has.s (Has.s Has.z))))) (d_name (Has.s (Has.s (Has.s (Has.s (Has.s (Has.s Has.z)))))))) hz hp (fun hk hz hp => ?_) (fun hk hz hp => ?_)
  · exact hp.elim
  · refine ds_next ?_
    obtain ⟨q4, hp⟩ := hp
    refine y_asgG (R := (pr2 I I)) (v := (dgv told_1 item_)) (d_dget (Rv := (pr2 I I)) q4 (d_name (Has.s (Has.s (Has.s (Has.s (Has.s (Has.s Has.z))))))) (d_name (Has.s (Has.s (Has.s (Has.s Has.z)))))) hz hp (fun t2 hz hp => ⟨_, (g_two (g_name (Put.s (Put.s (Put.s (Put.s (Put.s (Put.s (Put.s Put.z)))))))) (g_name (Put.s (Put.s (Put.s (Put.s (Put.s (Put.s (Put.s (Put.s Put.z)))))))))), ?_⟩)
    obtain ⟨q3, hp⟩ := hp
    exact ds_ret0 (T := I (day_ + ((t2.1 - day_) % t2.2))) hz.h (d_add (d_name (Has.s (Has.s (Has.s (Has.s (Has.s Has.z)))))) (d_mod (d_sub (d_name (Has.s (Has.s (Has.s (Has.s (Has.s (Has.s (Has.s Has.z)))))))) (d_name (Has.s (Has.s (Has.s (Has.s (Has.s Has.z))))))) (d_name (Has.s (Has.s (Has.s (Has.s (Has.s (Has.s (Has.s (Has.s Has.z))))))))) q3)) rfl

theorem gx_next_count {M : Mo} {C fI : Addr} {fdI : FuncData} {par : Str} (Bl : Bx M) (XT : XC M "NoKey" C fI fdI par "key" 1) (P : Pr M "next_count" (stm 12) ["items", "first", "second", "periods", "item", "day"]) (G_rests : Gd M 3 "rests" ["items", "first", "second", "periods"] (c_rests M)) : Gx M 4 "next_count" ["items", "first", "second", "periods", "item", "day"] (cx_next_count M) C "key" := by
  refine P.gx sc_next_count (by intro _; rfl) fun X B0 F0 D W g hp tk hK => ?_
  obtain ⟨items_, first_, second_, periods_, item_, day_⟩ := g
  have hz : Go (fun (_ : Hp) (_ : Unit) => True) B0 (lt (v_rests items_ first_ second_ periods_) fun told_1 => cond (!(dhas told_1 item_)) (()) (lt (dgv told_1 item_) fun t2 => ())) := ⟨trivial, fun _ _ _ _ h => h⟩
  have hp : x_next_count items_ first_ second_ periods_ item_ day_ := hp
  dsimp only [mkΓ, cx_next_count] at hK ⊢
  unfold x_next_count at hp
  obtain ⟨q4, hp⟩ := hp
  refine y_asg (R := (Dc Tx (pr2 I I))) (v := (v_rests items_ first_ second_ periods_)) (d_callQ (t := c_rests M) (items_, first_, second_, periods_) G_rests q4 (a_cons (d_name Has.z) (a_cons (d_name (Has.s Has.z)) (a_cons (d_name (Has.s (Has.s Has.z))) (a_cons (d_name (Has.s (Has.s (Has.s Has.z)))) a_nil))))) hz hp (fun told_1 hz hp => ⟨_, (Put.s (Put.s (Put.s (Put.s (Put.s (Put.s Put.z)))))), ?_⟩)
  refine y_ite (t_dnotin (Rv := (pr2 I I)) (d_name (Has.s (Has.s (Has.s (Has.s Has.z))))) (d_name (Has.s (Has.s (Has.s (Has.s (Has.s (Has.s Has.z)))))))) hz hp (fun hk hz hp => ?_) (fun hk hz hp => ?_)
  · exact ds_raise tk XT (Nat.le_of_ble_eq_true rfl) (d_name (Has.s (Has.s (Has.s (Has.s Has.z))))) (fun σ dd v B H e O h1 h2 => hK σ dd v B H e O h1 h2)
  · refine ds_next ?_
    obtain ⟨q3, hp⟩ := hp
    refine y_asgG (R := (pr2 I I)) (v := (dgv told_1 item_)) (d_dget (Rv := (pr2 I I)) q3 (d_name (Has.s (Has.s (Has.s (Has.s (Has.s (Has.s Has.z))))))) (d_name (Has.s (Has.s (Has.s (Has.s Has.z)))))) hz hp (fun t2 hz hp => ⟨_, (g_two (g_name (Put.s (Put.s (Put.s (Put.s (Put.s (Put.s (Put.s Put.z)))))))) (g_name (Put.s (Put.s (Put.s (Put.s (Put.s (Put.s (Put.s (Put.s Put.z)))))))))), ?_⟩)
    exact hp.elim

theorem g_wanting {M : Mo} (Bl : Bx M) (P : Pr M "wanting" (stm 14) ["wishes", "height"]) : Gd M 1 "wanting" ["wishes", "height"] (c_wanting M) := by
  refine P.gd sc_wanting (by intro _; rfl) fun X B0 F0 D g hp hR hN => ?_
  obtain ⟨b0, wishes_, height_⟩ := g
  have hz : Go (fun B z => Rt B F0 D.rt ((Sq true I) z) []) B0 (v_wanting wishes_ height_) := ⟨hR, fun _ _ _ e h => h.mono e⟩
  have hp : o_wanting wishes_ height_ := hp
  clear hR
  dsimp only [mkΓ, c_wanting]
  unfold v_wanting at hz
  unfold o_wanting at hp
  obtain ⟨q2, q3, hp⟩ := hp
  exact ds_ret0 hz.h (DNc.frz (n_flt (R := I) (f := fun y1 => y1.1) (pr := fun y1 => (decide (height_ < y1.2))) (ok := fun y1 => True) (ok2 := fun y1 => True) [("at", 2), ("wish", 3)] q3 q2 (i_enmL (Rs := I) (d_name Has.z) Bl.enumerate) (blkOk_by (by show blkC nm_wanting (defScope (stm 14)) _ _ = true; decide +kernel)) (by repeat constructor) (fun y1 h1 h2 => ⟨_, _, (g_two (g_name (Put.s (Put.s Put.z))) (g_name (Put.s (Put.s (Put.s Put.z))))), by simp, (t_gt (d_name (Has.s (Has.s (Has.s Has.z)))) (d_name (Has.s Has.z))), fun hc => (d_name (Has.s (Has.s Has.z)))⟩))) rfl

theorem g_poured {M : Mo} (Bl : Bx M) (P : Pr M "poured" (stm 15) ["wishes", "height"]) : Gd M 1 "poured" ["wishes", "height"] (c_poured M) := by
  refine P.gd sc_poured (by intro _; rfl) fun X B0 F0 D g hp hR hN => ?_
  obtain ⟨b0, wishes_, height_⟩ := g
  have hz : Go (fun B z => Rt B F0 D.rt (I z) []) B0 (v_poured wishes_ height_) := ⟨hR, fun _ _ _ e h => h.mono e⟩
  have hp : o_poured wishes_ height_ := hp
  clear hR
  dsimp only [mkΓ, c_poured]
  unfold v_poured at hz
  unfold o_poured at hp
  obtain ⟨q2, q3, hp⟩ := hp
  exact ds_ret0 hz.h (d_sumB (DNc.frz (n_map (R := I) (f := fun y1 => (min y1 height_)) (ok := fun y1 => True) [("wish", 2)] q3 q2 (i_seqL (Rs := I) (d_name Has.z)) (blkOk_by (by show blkC nm_poured (defScope (stm 15)) _ _ = true; decide +kernel)) (by repeat constructor) (fun y1 h1 => ⟨_, _, (g_name (Put.s (Put.s Put.z))), by simp, (d_min2 (d_name (Has.s (Has.s Has.z))) (d_name (Has.s Has.z)) Bl.min)⟩))) Bl.sum) rfl

theorem g_height_of {M : Mo} (Bl : Bx M) (P : Pr M "height_of" (stm 16) ["pool", "wishes"]) (G_poured : Gd M 1 "poured" ["wishes", "height"] (c_poured M)) : Gd M 2 "height_of" ["pool", "wishes"] (c_height_of M) := by
  refine P.gd sc_height_of (by intro _; rfl) fun X B0 F0 D g hp hR hN => ?_
  obtain ⟨b0, pool_, wishes_⟩ := g
  have hz : Go (fun B z => Rt B F0 D.rt (I z) []) B0 (v_height_of pool_ wishes_) := ⟨hR, fun _ _ _ e h => h.mono e⟩
  have hp : o_height_of pool_ wishes_ := hp
  clear hR
  dsimp only [mkΓ, c_height_of]
  unfold v_height_of at hz
  unfold o_height_of at hp
  refine y_asg (R := I) (v := (0 : Int)) d_int hz hp (fun low_1 hz hp => ⟨_, (Put.s (Put.s Put.z)), ?_⟩)
  refine y_asg (R := I) (v := (mxd wishes_ (0 : Int))) (d_maxD (d_name (Has.s Has.z)) d_int Bl.max) hz hp (fun high_2 hz hp => ⟨_, (Put.s (Put.s (Put.s Put.z))), ?_⟩)
  refine y_while (fun s3 : Int × Int => ([("pool", some (I pool_)), ("wishes", some ((Sq b0 I) wishes_)), ("low", some (I s3.1)), ("high", some (I s3.2)), ("middle", none)] : En)) (fun s3 : Int × Int => ([] : Ws)) (by walk_at "fg") (List.Perm.refl _) (by intro _; rfl) hz hp ?_ ?_ ?_
  · intro s3 h
    exact (t_lt (d_name (Has.s (Has.s Has.z))) (d_name (Has.s (Has.s (Has.s Has.z)))))
  · rintro ⟨Dn, Dr, Dk, Dc⟩ B1 hB1 hrt s3 hcn hp hz
    obtain rfl : Dr = _ := hrt
    obtain ⟨q9, hp⟩ := hp
    refine y_asg (R := I) (v := (((s3.1 + s3.2) + (1 : Int)) / (2 : Int))) (d_div (d_add (d_add (d_name (Has.s (Has.s Has.z))) (d_name (Has.s (Has.s (Has.s Has.z))))) d_int) d_int q9) hz hp (fun middle_4 hz hp => ⟨_, (Put.s (Put.s (Put.s (Put.s Put.z)))), ?_⟩)
    obtain ⟨q8, hp⟩ := hp
    refine y_ifL (fun s5 : Int × Int => ([("pool", some (I pool_)), ("wishes", some ((Sq b0 I) wishes_)), ("low", some (I s5.1)), ("high", some (I s5.2)), ("middle", some (I middle_4))] : En)) (fun s5 => ([] : Ws)) (t_le (d_callQ (t := c_poured M) (b0, wishes_, middle_4) G_poured q8 (a_cons (d_name (Has.s Has.z)) (a_cons (d_name (Has.s (Has.s (Has.s (Has.s Has.z))))) a_nil))) (d_name Has.z)) hz hp (fun hk hp hz => ?_) (fun hk hp hz => ?_) (fun s5 hz hp => ?_)
    · refine y_asg (R := I) (v := middle_4) (d_name (Has.s (Has.s (Has.s (Has.s Has.z))))) hz hp (fun low_6 hz hp => ⟨_, (Put.s (Put.s Put.z)), ?_⟩)
      exact y_re (by walk_at "fg") (List.Perm.refl _) hz.h
    · refine y_asg (R := I) (v := (middle_4 - (1 : Int))) (d_sub (d_name (Has.s (Has.s (Has.s (Has.s Has.z))))) d_int) hz hp (fun high_7 hz hp => ⟨_, (Put.s (Put.s (Put.s Put.z))), ?_⟩)
      exact y_re (by walk_at "fg") (List.Perm.refl _) hz.h
    · exact y_re (by walk_at "fg") (List.Perm.refl _) hz.h.1
  · intro s10 hz hp
    exact ds_ret0 (T := I s10.1) hz.h (d_name (Has.s (Has.s Has.z))) rfl

theorem g_fair_shares {M : Mo} (Bl : Bx M) (P : Pr M "fair_shares" (stm 17) ["pool", "wishes"]) (G_height_of : Gd M 2 "height_of" ["pool", "wishes"] (c_height_of M)) (G_poured : Gd M 1 "poured" ["wishes", "height"] (c_poured M)) (G_wanting : Gd M 1 "wanting" ["wishes", "height"] (c_wanting M)) : Gd M 3 "fair_shares" ["pool", "wishes"] (c_fair_shares M) := by
  refine P.gd sc_fair_shares (by intro _; rfl) fun X B0 F0 D g hp hR hN => ?_
  obtain ⟨b0, pool_, wishes_⟩ := g
  have hz : Go (fun B z => Rt B F0 D.rt ((Sq false I) z) []) B0 (v_fair_shares pool_ wishes_) := ⟨hR, fun _ _ _ e h => h.mono e⟩
  have hp : o_fair_shares pool_ wishes_ := hp
  clear hR
  dsimp only [mkΓ, c_fair_shares]
  unfold v_fair_shares at hz
  unfold o_fair_shares at hp
  obtain ⟨q15, hp⟩ := hp
  refine y_asg (R := I) (v := (v_height_of pool_ wishes_)) (d_callQ (t := c_height_of M) (b0, pool_, wishes_) G_height_of q15 (a_cons (d_name Has.z) (a_cons (d_name (Has.s Has.z)) a_nil))) hz hp (fun height_1 hz hp => ⟨_, (Put.s (Put.s Put.z)), ?_⟩)
  obtain ⟨q13, q14, hp⟩ := hp
  refine y_map (R := I) (f := fun y2 => (min y2 height_1)) (ok := fun y2 => True) [("wish", 6)] q14 q13 hz hp (i_seqL (Rs := I) (d_name (Has.s Has.z))) (blkOk_by (by show blkC nm_fair_shares (defScope (stm 17)) _ _ = true; decide +kernel)) (by repeat constructor) (fun y2 h1 => ⟨_, _, (g_name (Put.s (Put.s (Put.s (Put.s (Put.s (Put.s Put.z))))))), by simp, (d_min2 (d_name (Has.s (Has.s (Has.s (Has.s (Has.s (Has.s Has.z))))))) (d_name (Has.s (Has.s Has.z))) Bl.min)⟩) (Put.s (Put.s (Put.s Put.z))) (fun shares_4 hz hp l_shares2 => ⟨_, (Put.s (Put.s (Put.s Put.z))), ?_⟩)
  obtain ⟨q12, hp⟩ := hp
  refine y_asg (R := I) (v := (pool_ - (v_poured wishes_ height_1))) (d_sub (d_name Has.z) (d_callQ (t := c_poured M) (b0, wishes_, height_1) G_poured q12 (a_cons (d_name (Has.s Has.z)) (a_cons (d_name (Has.s (Has.s Has.z))) a_nil)))) hz hp (fun left_5 hz hp => ⟨_, (Put.s (Put.s (Put.s (Put.s Put.z)))), ?_⟩)
  obtain ⟨q11, hp⟩ := hp
  refine y_for (Rb := I) (fun s6 : (List Int) => ([("pool", some (I pool_)), ("wishes", some ((Sq b0 I) wishes_)), ("height", some (I height_1)), ("shares", some (At l_shares2)), ("left", some (I left_5)), ("at", none), ("wish", none)] : En)) (fun s6 : (List Int) => [(l_shares2, Cl I s6)]) (i_seqL (Rs := I) (d_sl (d_callQ (t := c_wanting M) (b0, wishes_, height_1) G_wanting q11 (a_cons (d_name (Has.s Has.z)) (a_cons (d_name (Has.s (Has.s Has.z))) a_nil))) o_none (o_some (d_name (Has.s (Has.s (Has.s (Has.s Has.z)))))))) (by walk_at "fg") (List.Perm.refl _) (by intro _; rfl) hz hp ?_ ?_
  · rintro ⟨Dn, Dr, Dk, Dc⟩ B1 hB1 hrt s6 y7 hp hz
    obtain rfl : Dr = _ := hrt
    refine ⟨_, _, (g_name (Put.s (Put.s (Put.s (Put.s (Put.s Put.z)))))), ?_⟩
    obtain ⟨q9, hp⟩ := hp
    refine y_augx (f := fun i j => i + j) (fun _ => ip_add) q9 hz hp Hold.z (d_name (Has.s (Has.s (Has.s Has.z)))) (d_name (Has.s (Has.s (Has.s (Has.s (Has.s Has.z)))))) d_int (fun shares_8 hz hp => ⟨_, Swp.z, ?_⟩)
    exact y_re (by walk_at "fg") (List.Perm.refl _) hz.h
  · intro s10 hz hp
    refine ds_freeze (Upg.s (Upg.s (Upg.s Upg.z))) Tak.z ?_
    exact ds_ret0 (T := (Sq false I) s10) hz.h (d_tuple (Rs := I) (d_name (Has.s (Has.s (Has.s Has.z)))) Bl.tuple) rfl

theorem g_unserved {M : Mo} (Bl : Bx M) (P : Pr M "unserved" (stm 18) ["pool", "wishes"]) (G_fair_shares : Gd M 3 "fair_shares" ["pool", "wishes"] (c_fair_shares M)) : Gd M 4 "unserved" ["pool", "wishes"] (c_unserved M) := by
  refine P.gd sc_unserved (by intro _; rfl) fun X B0 F0 D g hp hR hN => ?_
  obtain ⟨b0, pool_, wishes_⟩ := g
  have hz : Go (fun B z => Rt B F0 D.rt ((Sq true I) z) []) B0 (v_unserved pool_ wishes_) := ⟨hR, fun _ _ _ e h => h.mono e⟩
  have hp : o_unserved pool_ wishes_ := hp
  clear hR
  dsimp only [mkΓ, c_unserved]
  unfold v_unserved at hz
  unfold o_unserved at hp
  obtain ⟨q5, hp⟩ := hp
  refine y_asg (R := (Sq false I)) (v := (v_fair_shares pool_ wishes_)) (d_callQ (t := c_fair_shares M) (b0, pool_, wishes_) G_fair_shares q5 (a_cons (d_name Has.z) (a_cons (d_name (Has.s Has.z)) a_nil))) hz hp (fun shares_1 hz hp => ⟨_, (Put.s (Put.s Put.z)), ?_⟩)
  obtain ⟨q3, q4, hp⟩ := hp
  exact ds_ret0 hz.h (DNc.frz (n_flt (R := I) (f := fun y2 => y2.1) (pr := fun y2 => (decide ((gt shares_1 y2.1) < y2.2))) (ok := fun y2 => (okx shares_1 y2.1)) (ok2 := fun y2 => True) [("at", 3), ("wish", 4)] q4 q3 (i_enmL (Rs := I) (d_name (Has.s Has.z)) Bl.enumerate) (blkOk_by (by show blkC nm_unserved (defScope (stm 18)) _ _ = true; decide +kernel)) (by repeat constructor) (fun y2 h1 h2 => ⟨_, _, (g_two (g_name (Put.s (Put.s (Put.s Put.z)))) (g_name (Put.s (Put.s (Put.s (Put.s Put.z)))))), by simp, (t_lt (d_at (Rs := I) h1 (d_name (Has.s (Has.s Has.z))) (d_name (Has.s (Has.s (Has.s Has.z))))) (d_name (Has.s (Has.s (Has.s (Has.s Has.z)))))), fun hc => (d_name (Has.s (Has.s (Has.s Has.z))))⟩))) rfl
end K24

set_option maxHeartbeats 2000000
/-! walks (printed by tr.py) -/
namespace K24
open PySem PySem.Spec PyProof.Rows L2 ZZ
open Evl (Ex)
local macro_rules | `(tactic| walk_at "fg") => `(tactic| (repeat (first | exact Fg.nil | (with_reducible refine Fg.keep rfl ?_) | (with_reducible refine Fg.drop ?_))))
local macro_rules | `(tactic| walk_at "nonb") => `(tactic| first | exact nonb_I | exact nonb_No | exact nonb_Bo | exact nonb_S | exact nonb_seq | exact nonb_tup)
local macro_rules | `(tactic| walk_at "istb") => `(tactic| first | exact istb_sc | exact istb_seq | exact istb_tup)
theorem g_level {M : Mo} (Bl : Bx M) (P : Pr M "level" (stm 19) ["pool", "wishes"]) (G_fair_shares : Gd M 3 "fair_shares" ["pool", "wishes"] (c_fair_shares M)) (G_unserved : Gd M 4 "unserved" ["pool", "wishes"] (c_unserved M)) : Gd M 5 "level" ["pool", "wishes"] (c_level M) := by
  refine P.gd sc_level (by intro _; rfl) fun X B0 F0 D g hp hR hN => ?_
  obtain ⟨b0, pool_, wishes_⟩ := g
  have hz : Go (fun B z => Rt B F0 D.rt ((Oq I) z) []) B0 (v_level pool_ wishes_) := ⟨hR, fun _ _ _ e h => h.mono e⟩
  have hp : o_level pool_ wishes_ := hp
  clear hR
  dsimp only [mkΓ, c_level]
  unfold v_level at hz
  unfold o_level at hp
  obtain ⟨q6, hp⟩ := hp
  refine y_asg (R := (Sq false I)) (v := (v_fair_shares pool_ wishes_)) (d_callQ (t := c_fair_shares M) (b0, pool_, wishes_) G_fair_shares q6 (a_cons (d_name Has.z) (a_cons (d_name (Has.s Has.z)) a_nil))) hz hp (fun shares_1 hz hp => ⟨_, (Put.s (Put.s Put.z)), ?_⟩)
  obtain ⟨q3, q4, q5, hp⟩ := hp
  exact ds_ret0 hz.h (d_minN (DNc.frz (n_map (R := I) (f := fun y2 => (gt shares_1 y2)) (ok := fun y2 => (okx shares_1 y2)) [("at", 3)] q5 q4 (i_seqL (Rs := I) (d_callQ (t := c_unserved M) (b0, pool_, wishes_) G_unserved q3 (a_cons (d_name Has.z) (a_cons (d_name (Has.s Has.z)) a_nil)))) (blkOk_by (by show blkC nm_level (defScope (stm 19)) _ _ = true; decide +kernel)) (by repeat constructor) (fun y2 h1 => ⟨_, _, (g_name (Put.s (Put.s (Put.s Put.z)))), by simp, (d_at (Rs := I) h1 (d_name (Has.s (Has.s Has.z))) (d_name (Has.s (Has.s (Has.s Has.z)))))⟩))) Bl.min) rfl

theorem g_rounds_of {M : Mo} (Bl : Bx M) (P : Pr M "rounds_of" (stm 20) ["pool", "wishes"]) (G_wanting : Gd M 1 "wanting" ["wishes", "height"] (c_wanting M)) : Gd M 2 "rounds_of" ["pool", "wishes"] (c_rounds_of M) := by
  refine P.gd sc_rounds_of (by intro _; rfl) fun X B0 F0 D g hp hR hN => ?_
  obtain ⟨b0, pool_, wishes_⟩ := g
  have hz : Go (fun B z => Rt B F0 D.rt ((Sq true I) z) []) B0 (v_rounds_of pool_ wishes_) := ⟨hR, fun _ _ _ e h => h.mono e⟩
  have hp : o_rounds_of pool_ wishes_ := hp
  clear hR
  dsimp only [mkΓ, c_rounds_of]
  unfold v_rounds_of at hz
  unfold o_rounds_of at hp
  refine y_own (Cv := Cl I) (v := ([] : List Int)) (DN.c (n_lstQ I ([] : List Int) a_nil)) hz hp (fun places_2 hz hp l_places0 => ⟨_, (Put.s (Put.s Put.z)), ?_⟩)
  refine y_asg (R := I) (v := (0 : Int)) d_int hz hp (fun height_3 hz hp => ⟨_, (Put.s (Put.s (Put.s Put.z))), ?_⟩)
  obtain ⟨q13, hp⟩ := hp
  refine y_asg (R := (Sq true I)) (v := (v_wanting wishes_ height_3)) (d_callQ (t := c_wanting M) (b0, wishes_, height_3) G_wanting q13 (a_cons (d_name (Has.s Has.z)) (a_cons (d_name (Has.s (Has.s (Has.s Has.z)))) a_nil))) hz hp (fun round_now_4 hz hp => ⟨_, (Put.s (Put.s (Put.s (Put.s Put.z)))), ?_⟩)
  refine y_while (fun s5 : (List Int) × Int × (List Int) => ([("pool", some (I pool_)), ("wishes", some ((Sq b0 I) wishes_)), ("places", some (At l_places0)), ("height", some (I s5.2.1)), ("round_now", some ((Sq true I) s5.2.2))] : En)) (fun s5 : (List Int) × Int × (List Int) => [(l_places0, Cl I s5.1)]) (by walk_at "fg") (List.Perm.refl _) (by intro _; rfl) hz hp ?_ ?_ ?_
  · intro s5 h
    exact (t_w (w_and (t_gt (d_len (Rs := I) (d_name (Has.s (Has.s (Has.s (Has.s Has.z))))) Bl.len) d_int) (fun hc6 => (ZZ.v_and1 (t_lt (d_lenO (Rs := I) (d_name (Has.s (Has.s Has.z))) Hold.z Bl.len) (d_name Has.z))))))
  · rintro ⟨Dn, Dr, Dk, Dc⟩ B1 hB1 hrt s5 hcn hp hz
    obtain rfl : Dr = _ := hrt
    obtain ⟨q11, hp⟩ := hp
    refine y_ext (R := I) (vs := s5.2.2) q11 hz hp (d_name (Has.s (Has.s Has.z))) Hold.z (d_name (Has.s (Has.s (Has.s (Has.s Has.z))))) (fun places_7 hz hp => ⟨_, Swp.z, ?_⟩)
    refine y_augAdd (Has.s (Has.s (Has.s Has.z))) d_int hz hp (fun height_8 hz hp => ⟨_, (Put.s (Put.s (Put.s Put.z))), ?_⟩)
    obtain ⟨q10, hp⟩ := hp
    refine y_asg (R := (Sq true I)) (v := (v_wanting wishes_ height_8)) (d_callQ (t := c_wanting M) (b0, wishes_, height_8) G_wanting q10 (a_cons (d_name (Has.s Has.z)) (a_cons (d_name (Has.s (Has.s (Has.s Has.z)))) a_nil))) hz hp (fun round_now_9 hz hp => ⟨_, (Put.s (Put.s (Put.s (Put.s Put.z)))), ?_⟩)
    exact y_re (by walk_at "fg") (List.Perm.refl _) hz.h.1
  · intro s12 hz hp
    refine ds_freeze (Upg.s (Upg.s Upg.z)) Tak.z ?_
    exact ds_ret0 (T := (Sq true I) (cut s12.1 none (some pool_))) hz.h (d_sl (d_name (Has.s (Has.s Has.z))) o_none (o_some (d_name Has.z))) rfl

theorem g_fair_steps {M : Mo} (Bl : Bx M) (P : Pr M "fair_steps" (stm 21) ["pool", "wishes"]) (G_rounds_of : Gd M 2 "rounds_of" ["pool", "wishes"] (c_rounds_of M)) : Gd M 3 "fair_steps" ["pool", "wishes"] (c_fair_steps M) := by
  refine P.gd sc_fair_steps (by intro _; rfl) fun X B0 F0 D g hp hR hN => ?_
  obtain ⟨b0, pool_, wishes_⟩ := g
  have hz : Go (fun B z => Rt B F0 D.rt ((Sq false (Oq I)) z) []) B0 (v_fair_steps pool_ wishes_) := ⟨hR, fun _ _ _ e h => h.mono e⟩
  have hp : o_fair_steps pool_ wishes_ := hp
  clear hR
  dsimp only [mkΓ, c_fair_steps]
  unfold v_fair_steps at hz
  unfold o_fair_steps at hp
  obtain ⟨q6, hp⟩ := hp
  refine y_asg (R := (Sq true I)) (v := (v_rounds_of pool_ wishes_)) (d_callQ (t := c_rounds_of M) (b0, pool_, wishes_) G_rounds_of q6 (a_cons (d_name Has.z) (a_cons (d_name (Has.s Has.z)) a_nil))) hz hp (fun places_1 hz hp => ⟨_, (Put.s (Put.s Put.z)), ?_⟩)
  refine y_asg (R := I) (v := (pool_ - (places_1.length : Int))) (d_sub (d_name Has.z) (d_len (Rs := I) (d_name (Has.s (Has.s Has.z))) Bl.len)) hz hp (fun beyond_2 hz hp => ⟨_, (Put.s (Put.s (Put.s Put.z))), ?_⟩)
  obtain ⟨q3, q4, q5, hp⟩ := hp
  exact ds_ret0 (T := (Sq false (Oq I)) ((([none] : List (Option Int)) ++ (places_1.map some)) ++ (rep ([none] : List (Option Int)) beyond_2))) hz.h (d_tuple (Rs := (Oq I)) (DNc.frz (DN.c (n_cat (Rs := (Oq I)) (DNc.frz (DN.c (n_cat (Rs := (Oq I)) (DNc.frz (DN.c (n_lstQ (Oq I) ([none] : List (Option Int)) (a_cons d_none a_nil)))) (d_some (d_name (Has.s (Has.s Has.z)))) q3))) (DNc.frz (n_rep q4 (DNc.frz (DN.c (n_lstQ (Oq I) ([none] : List (Option Int)) (a_cons d_none a_nil)))) (d_name (Has.s (Has.s (Has.s Has.z)))))) q5))) Bl.tuple) rfl

theorem g_pieces_there {M : Mo} (Bl : Bx M) (P : Pr M "pieces_there" (stm 23) ["stock"]) : Gd M 1 "pieces_there" ["stock"] (c_pieces_there M) := by
  refine P.gd sc_pieces_there (by intro _; rfl) fun X B0 F0 D g hp hR hN => ?_
  obtain ⟨b0, stock_⟩ := g
  have hz : Go (fun B z => Rt B F0 D.rt ((Dc Tx I) z) []) B0 (v_pieces_there stock_) := ⟨hR, fun _ _ _ e h => h.mono e⟩
  have hp : o_pieces_there stock_ := hp
  clear hR
  dsimp only [mkΓ, c_pieces_there]
  unfold v_pieces_there at hz
  unfold o_pieces_there at hp
  obtain ⟨q2, q3, hp⟩ := hp
  exact ds_ret0 hz.h (DNc.frzD (n_dmap (Rk := Tx) (Rv := I) (f := fun y1 => y1.1) (g := fun y1 => y1.2) (ok := fun y1 => True) [("item", 1), ("count", 2)] q3 q2 (i_seqL (Rs := (pr2 Tx I)) (d_name Has.z)) (blkOk_by (by show blkC nm_pieces_there (defScope (stm 23)) _ _ = true; decide +kernel)) (by repeat constructor) (fun y1 h1 => ⟨_, _, (g_two (g_name (Put.s Put.z)) (g_name (Put.s (Put.s Put.z)))), by simp, (d_name (Has.s Has.z)), (d_name (Has.s (Has.s Has.z)))⟩))) rfl

theorem g_pieces_needed {M : Mo} (Bl : Bx M) (P : Pr M "pieces_needed" (stm 24) ["orders", "chosen"]) : Gd M 1 "pieces_needed" ["orders", "chosen"] (c_pieces_needed M) := by
  refine P.gd sc_pieces_needed (by intro _; rfl) fun X B0 F0 D g hp hR hN => ?_
  obtain ⟨b0, b1, orders_, chosen_⟩ := g
  have hz : Go (fun B z => Rt B F0 D.rt ((Dc Tx I) z) []) B0 (v_pieces_needed orders_ chosen_) := ⟨hR, fun _ _ _ e h => h.mono e⟩
  have hp : o_pieces_needed orders_ chosen_ := hp
  clear hR
  dsimp only [mkΓ, c_pieces_needed]
  unfold v_pieces_needed at hz
  unfold o_pieces_needed at hp
  refine y_own (Cv := Cd Tx I) (v := ([] : List (Str × Int))) n_dict0 hz hp (fun needed_2 hz hp l_needed0 => ⟨_, (Put.s (Put.s Put.z)), ?_⟩)
  refine y_for (Rb := I) (fun s3 : (List (Str × Int)) => ([("orders", some ((Sq b0 (pr2 (pr2 Tx I) (pr2 Tx I))) orders_)), ("chosen", some ((Sq b1 I) chosen_)), ("needed", some (At l_needed0)), ("at", none), ("item", none), ("count", none)] : En)) (fun s3 : (List (Str × Int)) => [(l_needed0, Cd Tx I s3)]) (i_seqL (Rs := I) (d_name (Has.s Has.z))) (by walk_at "fg") (List.Perm.refl _) (by intro _; rfl) hz hp ?_ ?_
  · rintro ⟨Dn, Dr, Dk, Dc⟩ B1 hB1 hrt s3 y4 hp hz
    obtain rfl : Dr = _ := hrt
    refine ⟨_, _, (g_name (Put.s (Put.s (Put.s Put.z)))), ?_⟩
    obtain ⟨q10, q11, hp⟩ := hp
    refine y_for (Rb := (pr2 Tx I)) (fun s5 : (List (Str × Int)) => ([("orders", some ((Sq b0 (pr2 (pr2 Tx I) (pr2 Tx I))) orders_)), ("chosen", some ((Sq b1 I) chosen_)), ("needed", some (At l_needed0)), ("at", some (I y4)), ("item", none), ("count", none)] : En)) (fun s5 : (List (Str × Int)) => [(l_needed0, Cd Tx I s5)]) (i_seqL (Rs := (pr2 Tx I)) (d_tupQ (R := (pr2 Tx I)) (d_at (Rs := (pr2 (pr2 Tx I) (pr2 Tx I))) q11 (d_name Has.z) (d_name (Has.s (Has.s (Has.s Has.z))))))) (by walk_at "fg") (List.Perm.refl _) (by intro _; rfl) hz hp ?_ ?_
    · rintro ⟨Dn, Dr, Dk, Dc⟩ B1 hB1 hrt s5 y6 hp hz
      obtain rfl : Dr = _ := hrt
      refine ⟨_, _, (g_two (g_name (Put.s (Put.s (Put.s (Put.s Put.z))))) (g_name (Put.s (Put.s (Put.s (Put.s (Put.s Put.z))))))), ?_⟩
      obtain ⟨q8, hp⟩ := hp
      refine y_dput (Rk := Tx) (Rv := I) q8 hz hp (d_add (d_dgdO (Rv := I) (d_name (Has.s (Has.s Has.z))) (d_name (Has.s (Has.s (Has.s (Has.s Has.z))))) d_int Hold.z) (d_name (Has.s (Has.s (Has.s (Has.s (Has.s Has.z))))))) (d_name (Has.s (Has.s Has.z))) (d_name (Has.s (Has.s (Has.s (Has.s Has.z))))) Hold.z (fun needed_7 hz hp => ⟨_, Swp.z, ?_⟩)
      exact y_re (by walk_at "fg") (List.Perm.refl _) hz.h
    · intro s9 hz hp
      exact y_re (by walk_at "fg") (List.Perm.refl _) hz.h
  · intro s12 hz hp
    refine ds_freezeD (Upg.s (Upg.s Upg.z)) Tak.z ?_
    exact ds_ret0 (T := (Dc Tx I) s12) hz.h (d_name (Has.s (Has.s Has.z))) rfl

theorem g_too_few {M : Mo} (Bl : Bx M) (P : Pr M "too_few" (stm 25) ["stock", "orders", "chosen"]) (G_pieces_there : Gd M 1 "pieces_there" ["stock"] (c_pieces_there M)) (G_pieces_needed : Gd M 1 "pieces_needed" ["orders", "chosen"] (c_pieces_needed M)) : Gd M 2 "too_few" ["stock", "orders", "chosen"] (c_too_few M) := by
  refine P.gd sc_too_few (by intro _; rfl) fun X B0 F0 D g hp hR hN => ?_
  obtain ⟨b0, b1, b2, stock_, orders_, chosen_⟩ := g
  have hz : Go (fun B z => Rt B F0 D.rt ((Sq false Tx) z) []) B0 (v_too_few stock_ orders_ chosen_) := ⟨hR, fun _ _ _ e h => h.mono e⟩
  have hp : o_too_few stock_ orders_ chosen_ := hp
  clear hR
  dsimp only [mkΓ, c_too_few]
  unfold v_too_few at hz
  unfold o_too_few at hp
  obtain ⟨q8, hp⟩ := hp
  refine y_asg (R := (Dc Tx I)) (v := (v_pieces_there stock_)) (d_callQ (t := c_pieces_there M) (b0, stock_) G_pieces_there q8 (a_cons (d_name Has.z) a_nil)) hz hp (fun there_1 hz hp => ⟨_, (Put.s (Put.s (Put.s Put.z))), ?_⟩)
  obtain ⟨q7, hp⟩ := hp
  refine y_asg (R := (Dc Tx I)) (v := (v_pieces_needed orders_ chosen_)) (d_callQ (t := c_pieces_needed M) (b1, b2, orders_, chosen_) G_pieces_needed q7 (a_cons (d_name (Has.s Has.z)) (a_cons (d_name (Has.s (Has.s Has.z))) a_nil))) hz hp (fun needed_2 hz hp => ⟨_, (Put.s (Put.s (Put.s (Put.s Put.z)))), ?_⟩)
  obtain ⟨q4, q5, q6, hp⟩ := hp
  exact ds_ret0 hz.h (d_tuple (Rs := Tx) (DNc.frz (n_flt (R := Tx) (f := fun y3 => y3) (pr := fun y3 => (decide ((dgd there_1 y3 (0 : Int)) < (dgv needed_2 y3)))) (ok := fun y3 => ((dget needed_2 y3).isSome = true)) (ok2 := fun y3 => True) [("item", 5)] q6 q5 (i_seqL (Rs := Tx) (DNc.frz (n_sort_S q4 (DNc.frz (n_listD (Rk := Tx) (Rv := I) (d_name (Has.s (Has.s (Has.s (Has.s Has.z))))) Bl.list)) Bl.sorted))) (blkOk_by (by show blkC nm_too_few (defScope (stm 25)) _ _ = true; decide +kernel)) (by repeat constructor) (fun y3 h1 h2 => ⟨_, _, (g_name (Put.s (Put.s (Put.s (Put.s (Put.s Put.z)))))), by simp, (t_gt (d_dget (Rv := I) h1 (d_name (Has.s (Has.s (Has.s (Has.s Has.z))))) (d_name (Has.s (Has.s (Has.s (Has.s (Has.s Has.z))))))) (d_dgd (Rv := I) (d_name (Has.s (Has.s (Has.s Has.z)))) (d_name (Has.s (Has.s (Has.s (Has.s (Has.s Has.z)))))) d_int)), fun hc => (d_name (Has.s (Has.s (Has.s (Has.s (Has.s Has.z))))))⟩))) Bl.tuple) rfl
end K24

set_option maxHeartbeats 2000000
/-! walks (printed by tr.py) -/
namespace K24
open PySem PySem.Spec PyProof.Rows L2 ZZ
open Evl (Ex)
local macro_rules | `(tactic| walk_at "fg") => `(tactic| (repeat (first | exact Fg.nil | (with_reducible refine Fg.keep rfl ?_) | (with_reducible refine Fg.drop ?_))))
local macro_rules | `(tactic| walk_at "nonb") => `(tactic| first | exact nonb_I | exact nonb_No | exact nonb_Bo | exact nonb_S | exact nonb_seq | exact nonb_tup)
local macro_rules | `(tactic| walk_at "istb") => `(tactic| first | exact istb_sc | exact istb_seq | exact istb_tup)
theorem g_fits {M : Mo} (Bl : Bx M) (P : Pr M "fits" (stm 26) ["stock", "orders", "chosen"]) (G_too_few : Gd M 2 "too_few" ["stock", "orders", "chosen"] (c_too_few M)) : Gd M 3 "fits" ["stock", "orders", "chosen"] (c_fits M) := by
  refine P.gd sc_fits (by intro _; rfl) fun X B0 F0 D g hp hR hN => ?_
  obtain ⟨b0, stock_, orders_, chosen_⟩ := g
  have hz : Go (fun B z => Rt B F0 D.rt (Bo z) []) B0 (v_fits stock_ orders_ chosen_) := ⟨hR, fun _ _ _ e h => h.mono e⟩
  have hp : o_fits stock_ orders_ chosen_ := hp
  clear hR
  dsimp only [mkΓ, c_fits]
  unfold v_fits at hz
  unfold o_fits at hp
  obtain ⟨q1, hp⟩ := hp
  exact ds_ret0 (T := Bo (decide (((v_too_few stock_ orders_ chosen_).length : Int) = (0 : Int)))) hz.h (d_eqI (d_len (Rs := Tx) (d_callQ (t := c_too_few M) (true, b0, false, stock_, orders_, chosen_) G_too_few q1 (a_cons (d_name Has.z) (a_cons (d_name (Has.s Has.z)) (a_cons (d_name (Has.s (Has.s Has.z))) a_nil)))) Bl.len) d_int) rfl

theorem g_later_places {M : Mo} (Bl : Bx M) (P : Pr M "later_places" (stm 27) ["orders", "chosen"]) : Gd M 1 "later_places" ["orders", "chosen"] (c_later_places M) := by
  refine P.gd sc_later_places (by intro _; rfl) fun X B0 F0 D g hp hR hN => ?_
  obtain ⟨b0, orders_, chosen_⟩ := g
  have hz : Go (fun B z => Rt B F0 D.rt ((Sq true I) z) []) B0 (v_later_places orders_ chosen_) := ⟨hR, fun _ _ _ e h => h.mono e⟩
  have hp : o_later_places orders_ chosen_ := hp
  clear hR
  dsimp only [mkΓ, c_later_places]
  unfold v_later_places at hz
  unfold o_later_places at hp
  refine y_ite (t_eqI (d_len (Rs := I) (d_name (Has.s Has.z)) Bl.len) d_int) hz hp (fun hk hz hp => ?_) (fun hk hz hp => ?_)
  · obtain ⟨q1, q2, hp⟩ := hp
    exact ds_ret0 (T := (Sq true I) (rng 0 (orders_.length : Int))) hz.h (DNc.frz (n_lrng1 q1 q2 (d_len (Rs := (pr2 (pr2 Tx I) (pr2 Tx I))) (d_name Has.z) Bl.len) Bl.range Bl.list)) rfl
  · refine ds_next ?_
    obtain ⟨q3, q4, q5, hp⟩ := hp
    exact ds_ret0 (T := (Sq true I) (rng ((gt chosen_ (-1 : Int)) + (1 : Int)) (orders_.length : Int))) hz.h (DNc.frz (n_lrng2 q4 q5 (d_add (d_at (Rs := I) q3 (d_name (Has.s Has.z)) (d_neg d_int)) d_int) (d_len (Rs := (pr2 (pr2 Tx I) (pr2 Tx I))) (d_name Has.z) Bl.len) Bl.range Bl.list)) rfl

theorem g_sets_from_z {M : Mo} (P : Pr M "sets_from" (stm 28) ["stock", "orders", "chosen"]) : Gd M 4 "sets_from" ["stock", "orders", "chosen"] (c_sets_from M 0) := by
  refine P.gd sc_sets_from (by intro _; rfl) fun X B0 F0 D g hp hR hN => ?_
  exact False.elim hp
theorem g_sets_from_s {M : Mo} (n : Nat) (Bl : Bx M) (P : Pr M "sets_from" (stm 28) ["stock", "orders", "chosen"]) (G_later_places : Gd M 1 "later_places" ["orders", "chosen"] (c_later_places M)) (G_fits : Gd M 3 "fits" ["stock", "orders", "chosen"] (c_fits M)) (G_sets_from : Gd M (4 + n) "sets_from" ["stock", "orders", "chosen"] (c_sets_from M n)) : Gd M (4 + n + 1) "sets_from" ["stock", "orders", "chosen"] (c_sets_from M (n + 1)) := by
  refine P.gd sc_sets_from (by intro _; rfl) fun X B0 F0 D g hp hR hN => ?_
  obtain ⟨b0, stock_, orders_, chosen_⟩ := g
  have hz : Go (fun B z => Rt B F0 D.rt ((Sq true (Sq false I)) z) []) B0 (v_sets_from (n + 1) stock_ orders_ chosen_) := ⟨hR, fun _ _ _ e h => h.mono e⟩
  have hp : o_sets_from (n + 1) stock_ orders_ chosen_ := hp
  clear hR
  dsimp only [mkΓ, c_sets_from]
  unfold v_sets_from at hz
  unfold o_sets_from at hp
  refine y_own (Cv := Cl (Sq false I)) (v := [chosen_]) (DN.c (n_lstQ (Sq false I) [chosen_] (a_cons (d_name (Has.s (Has.s Has.z))) a_nil))) hz hp (fun found_2 hz hp l_found0 => ⟨_, (Put.s (Put.s (Put.s Put.z))), ?_⟩)
  obtain ⟨q13, hp⟩ := hp
  refine y_for (Rb := I) (fun s3 : (List (List Int)) => ([("stock", some ((Sq true (pr2 Tx I)) stock_)), ("orders", some ((Sq b0 (pr2 (pr2 Tx I) (pr2 Tx I))) orders_)), ("chosen", some ((Sq false I) chosen_)), ("found", some (At l_found0)), ("at", none), ("wider", none)] : En)) (fun s3 : (List (List Int)) => [(l_found0, Cl (Sq false I) s3)]) (i_seqL (Rs := I) (d_callQ (hk := Nat.le_trans (Nat.le_of_ble_eq_true rfl : 1 ≤ 4) (Nat.le_add_right _ n)) (t := c_later_places M) (b0, orders_, chosen_) G_later_places q13 (a_cons (d_name (Has.s Has.z)) (a_cons (d_name (Has.s (Has.s Has.z))) a_nil)))) (by walk_at "fg") (List.Perm.refl _) (by intro _; rfl) hz hp ?_ ?_
  · rintro ⟨Dn, Dr, Dk, Dc⟩ B1 hB1 hrt s3 y4 hp hz
    obtain rfl : Dr = _ := hrt
    refine ⟨_, _, (g_name (Put.s (Put.s (Put.s (Put.s Put.z))))), ?_⟩
    obtain ⟨q11, hp⟩ := hp
    refine y_asg (R := (Sq false I)) (v := (chosen_ ++ [y4])) (d_catT (Rs := I) q11 (d_name (Has.s (Has.s Has.z))) (d_tupL (R := I) (xs := [y4]) (a_cons (d_name (Has.s (Has.s (Has.s (Has.s Has.z))))) a_nil))) hz hp (fun wider_5 hz hp => ⟨_, (Put.s (Put.s (Put.s (Put.s (Put.s Put.z))))), ?_⟩)
    obtain ⟨q10, hp⟩ := hp
    refine y_ifL (fun s6 : (List (List Int)) => ([("stock", some ((Sq true (pr2 Tx I)) stock_)), ("orders", some ((Sq b0 (pr2 (pr2 Tx I) (pr2 Tx I))) orders_)), ("chosen", some ((Sq false I) chosen_)), ("found", some (At l_found0)), ("at", some (I y4)), ("wider", some ((Sq false I) wider_5))] : En)) (fun s6 => [(l_found0, Cl (Sq false I) s6)]) (t_val (d_callQ (hk := Nat.le_trans (Nat.le_of_ble_eq_true rfl : 3 ≤ 4) (Nat.le_add_right _ n)) (t := c_fits M) (b0, stock_, orders_, wider_5) G_fits q10 (a_cons (d_name Has.z) (a_cons (d_name (Has.s Has.z)) (a_cons (d_name (Has.s (Has.s (Has.s (Has.s (Has.s Has.z)))))) a_nil))))) hz hp (fun hk hp hz => ?_) (fun hk hp hz => ?_) (fun s6 hz hp => ?_)
    · obtain ⟨q8, q9, hp⟩ := hp
      refine y_ext (R := (Sq false I)) (vs := (v_sets_from n stock_ orders_ wider_5)) q9 hz hp (d_name (Has.s (Has.s (Has.s Has.z)))) Hold.z (d_callQ (hk := Nat.le_refl _) (t := c_sets_from M n) (b0, stock_, orders_, wider_5) G_sets_from q8 (a_cons (d_name Has.z) (a_cons (d_name (Has.s Has.z)) (a_cons (d_name (Has.s (Has.s (Has.s (Has.s (Has.s Has.z)))))) a_nil)))) (fun found_7 hz hp => ⟨_, Swp.z, ?_⟩)
      exact y_re (by walk_at "fg") (List.Perm.refl _) hz.h
    · exact y_re (by walk_at "fg") (List.Perm.refl _) hz.h
    · exact y_re (by walk_at "fg") (List.Perm.refl _) hz.h
  · intro s12 hz hp
    refine ds_freeze (Upg.s (Upg.s (Upg.s Upg.z))) Tak.z ?_
    exact ds_ret0 (T := (Sq true (Sq false I)) s12) hz.h (d_name (Has.s (Has.s (Has.s Has.z)))) rfl
theorem g_sets_from_n {M : Mo} (Bl : Bx M) (P : Pr M "sets_from" (stm 28) ["stock", "orders", "chosen"]) (G_later_places : Gd M 1 "later_places" ["orders", "chosen"] (c_later_places M)) (G_fits : Gd M 3 "fits" ["stock", "orders", "chosen"] (c_fits M)) : ∀ n, Gd M (4 + n) "sets_from" ["stock", "orders", "chosen"] (c_sets_from M n)
  | 0 => g_sets_from_z P
  | n + 1 => g_sets_from_s n Bl P G_later_places G_fits (g_sets_from_n Bl P G_later_places G_fits n)
theorem g_sets_from {M : Mo} (Bl : Bx M) (P : Pr M "sets_from" (stm 28) ["stock", "orders", "chosen"]) (G_later_places : Gd M 1 "later_places" ["orders", "chosen"] (c_later_places M)) (G_fits : Gd M 3 "fits" ["stock", "orders", "chosen"] (c_fits M)) : Gd M 13 "sets_from" ["stock", "orders", "chosen"] (c_sets_from M 9) := g_sets_from_n Bl P G_later_places G_fits 9

theorem g_fitting_sets {M : Mo} (Bl : Bx M) (P : Pr M "fitting_sets" (stm 29) ["stock", "orders"]) (G_sets_from : Gd M 13 "sets_from" ["stock", "orders", "chosen"] (c_sets_from M 9)) : Gd M 14 "fitting_sets" ["stock", "orders"] (c_fitting_sets M) := by
  refine P.gd sc_fitting_sets (by intro _; rfl) fun X B0 F0 D g hp hR hN => ?_
  obtain ⟨b0, stock_, orders_⟩ := g
  have hz : Go (fun B z => Rt B F0 D.rt ((Sq true (Sq false I)) z) []) B0 (v_fitting_sets stock_ orders_) := ⟨hR, fun _ _ _ e h => h.mono e⟩
  have hp : o_fitting_sets stock_ orders_ := hp
  clear hR
  dsimp only [mkΓ, c_fitting_sets]
  unfold v_fitting_sets at hz
  unfold o_fitting_sets at hp
  obtain ⟨q1, hp⟩ := hp
  exact ds_ret0 (T := (Sq true (Sq false I)) (v_sets_from 9 stock_ orders_ ([]))) hz.h (d_callQ (t := c_sets_from M 9) (b0, stock_, orders_, ([])) G_sets_from q1 (a_cons (d_name Has.z) (a_cons (d_name (Has.s Has.z)) (a_cons (d_tupL (R := I) (xs := []) a_nil) a_nil)))) rfl

theorem g_first_of_best__0 {M : Mo} (Bl : Bx M) (P : Pr M "first_of_best" (stm 30) ["sets", "ranks"]) : Gd M 1 "first_of_best" ["sets", "ranks"] (c_first_of_best__0 M) := by
  refine P.gd sc_first_of_best (by intro _; rfl) fun X B0 F0 D g hp hR hN => ?_
  obtain ⟨sets_, ranks_⟩ := g
  have hz : Go (fun B z => Rt B F0 D.rt ((Sq false I) z) []) B0 (v_first_of_best__0 sets_ ranks_) := ⟨hR, fun _ _ _ e h => h.mono e⟩
  have hp : o_first_of_best__0 sets_ ranks_ := hp
  clear hR
  dsimp only [mkΓ, c_first_of_best__0]
  unfold v_first_of_best__0 at hz
  unfold o_first_of_best__0 at hp
  refine y_asg (R := I) (v := (0 : Int)) d_int hz hp (fun best_1 hz hp => ⟨_, (Put.s (Put.s Put.z)), ?_⟩)
  refine y_for (Rb := (pr2 I I)) (fun s2 : Int => ([("sets", some ((Sq true (Sq false I)) sets_)), ("ranks", some ((Sq true I) ranks_)), ("best", some (I s2)), ("at", none), ("rank", none)] : En)) (fun s2 : Int => ([] : Ws)) (i_enmL (Rs := I) (d_name (Has.s Has.z)) Bl.enumerate) (by walk_at "fg") (List.Perm.refl _) (by intro _; rfl) hz hp ?_ ?_
  · rintro ⟨Dn, Dr, Dk, Dc⟩ B1 hB1 hrt s2 y3 hp hz
    obtain rfl : Dr = _ := hrt
    refine ⟨_, _, (g_two (g_name (Put.s (Put.s (Put.s Put.z)))) (g_name (Put.s (Put.s (Put.s (Put.s Put.z)))))), ?_⟩
    obtain ⟨q6, hp⟩ := hp
    refine y_ifL (fun s4 : Int => ([("sets", some ((Sq true (Sq false I)) sets_)), ("ranks", some ((Sq true I) ranks_)), ("best", some (I s4)), ("at", some (I y3.1)), ("rank", some (I y3.2))] : En)) (fun s4 => ([] : Ws)) (t_gt (d_name (Has.s (Has.s (Has.s (Has.s Has.z))))) (d_at (Rs := I) q6 (d_name (Has.s Has.z)) (d_name (Has.s (Has.s Has.z))))) hz hp (fun hk hp hz => ?_) (fun hk hp hz => ?_) (fun s4 hz hp => ?_)
    · refine y_asg (R := I) (v := y3.1) (d_name (Has.s (Has.s (Has.s Has.z)))) hz hp (fun best_5 hz hp => ⟨_, (Put.s (Put.s Put.z)), ?_⟩)
      exact y_re (by walk_at "fg") (List.Perm.refl _) hz.h
    · exact y_re (by walk_at "fg") (List.Perm.refl _) hz.h
    · exact y_re (by walk_at "fg") (List.Perm.refl _) hz.h
  · intro s7 hz hp
    obtain ⟨q8, hp⟩ := hp
    exact ds_ret0 (T := (Sq false I) (gt sets_ s7)) hz.h (d_at (Rs := (Sq false I)) q8 (d_name Has.z) (d_name (Has.s (Has.s Has.z)))) rfl

theorem g_most_whole {M : Mo} (Bl : Bx M) (P : Pr M "most_whole" (stm 31) ["stock", "orders"]) (G_fitting_sets : Gd M 14 "fitting_sets" ["stock", "orders"] (c_fitting_sets M)) (G_first_of_best__0 : Gd M 1 "first_of_best" ["sets", "ranks"] (c_first_of_best__0 M)) : Gd M 15 "most_whole" ["stock", "orders"] (c_most_whole M) := by
  refine P.gd sc_most_whole (by intro _; rfl) fun X B0 F0 D g hp hR hN => ?_
  obtain ⟨stock_, orders_⟩ := g
  have hz : Go (fun B z => Rt B F0 D.rt ((Sq false I) z) []) B0 (v_most_whole stock_ orders_) := ⟨hR, fun _ _ _ e h => h.mono e⟩
  have hp : o_most_whole stock_ orders_ := hp
  clear hR
  dsimp only [mkΓ, c_most_whole]
  unfold v_most_whole at hz
  unfold o_most_whole at hp
  obtain ⟨q6, hp⟩ := hp
  refine y_asg (R := (Sq true (Sq false I))) (v := (v_fitting_sets stock_ orders_)) (d_callQ (t := c_fitting_sets M) (false, stock_, orders_) G_fitting_sets q6 (a_cons (d_name Has.z) (a_cons (d_name (Has.s Has.z)) a_nil))) hz hp (fun sets_1 hz hp => ⟨_, (Put.s (Put.s Put.z)), ?_⟩)
  obtain ⟨q3, q4, q5, hp⟩ := hp
  exact ds_ret0 hz.h (d_callQ (t := c_first_of_best__0 M) (sets_1, _) G_first_of_best__0 q5 (a_cons (d_name (Has.s (Has.s Has.z))) (a_cons (DNc.frz (n_map (R := I) (f := fun y2 => (y2.length : Int)) (ok := fun y2 => True) [("chosen", 3)] q4 q3 (i_seqL (Rs := (Sq false I)) (d_name (Has.s (Has.s Has.z)))) (blkOk_by (by show blkC nm_most_whole (defScope (stm 31)) _ _ = true; decide +kernel)) (by repeat constructor) (fun y2 h1 => ⟨_, _, (g_name (Put.s (Put.s (Put.s Put.z)))), by simp, (d_len (Rs := I) (d_name (Has.s (Has.s (Has.s Has.z)))) Bl.len)⟩))) a_nil))) rfl
end K24

set_option maxHeartbeats 2000000
/-! walks (printed by tr.py) -/
namespace K24
open PySem PySem.Spec PyProof.Rows L2 ZZ
open Evl (Ex)
local macro_rules | `(tactic| walk_at "fg") => `(tactic| (repeat (first | exact Fg.nil | (with_reducible refine Fg.keep rfl ?_) | (with_reducible refine Fg.drop ?_))))
local macro_rules | `(tactic| walk_at "nonb") => `(tactic| first | exact nonb_I | exact nonb_No | exact nonb_Bo | exact nonb_S | exact nonb_seq | exact nonb_tup)
local macro_rules | `(tactic| walk_at "istb") => `(tactic| first | exact istb_sc | exact istb_seq | exact istb_tup)
theorem g_value_of {M : Mo} (Bl : Bx M) (P : Pr M "value_of" (stm 32) ["values", "chosen"]) : Gd M 1 "value_of" ["values", "chosen"] (c_value_of M) := by
  refine P.gd sc_value_of (by intro _; rfl) fun X B0 F0 D g hp hR hN => ?_
  obtain ⟨values_, chosen_⟩ := g
  have hz : Go (fun B z => Rt B F0 D.rt (I z) []) B0 (v_value_of values_ chosen_) := ⟨hR, fun _ _ _ e h => h.mono e⟩
  have hp : o_value_of values_ chosen_ := hp
  clear hR
  dsimp only [mkΓ, c_value_of]
  unfold v_value_of at hz
  unfold o_value_of at hp
  obtain ⟨q2, q3, hp⟩ := hp
  exact ds_ret0 hz.h (d_sumB (DNc.frz (n_map (R := I) (f := fun y1 => (gt values_ y1)) (ok := fun y1 => (okx values_ y1)) [("at", 2)] q3 q2 (i_seqL (Rs := I) (d_name (Has.s Has.z))) (blkOk_by (by show blkC nm_value_of (defScope (stm 32)) _ _ = true; decide +kernel)) (by repeat constructor) (fun y1 h1 => ⟨_, _, (g_name (Put.s (Put.s Put.z))), by simp, (d_at (Rs := I) h1 (d_name Has.z) (d_name (Has.s (Has.s Has.z))))⟩))) Bl.sum) rfl

theorem g_first_of_best__1 {M : Mo} (Bl : Bx M) (P : Pr M "first_of_best" (stm 30) ["sets", "ranks"]) : Gd M 1 "first_of_best" ["sets", "ranks"] (c_first_of_best__1 M) := by
  refine P.gd sc_first_of_best (by intro _; rfl) fun X B0 F0 D g hp hR hN => ?_
  obtain ⟨sets_, ranks_⟩ := g
  have hz : Go (fun B z => Rt B F0 D.rt ((Sq false I) z) []) B0 (v_first_of_best__1 sets_ ranks_) := ⟨hR, fun _ _ _ e h => h.mono e⟩
  have hp : o_first_of_best__1 sets_ ranks_ := hp
  clear hR
  dsimp only [mkΓ, c_first_of_best__1]
  unfold v_first_of_best__1 at hz
  unfold o_first_of_best__1 at hp
  refine y_asg (R := I) (v := (0 : Int)) d_int hz hp (fun best_1 hz hp => ⟨_, (Put.s (Put.s Put.z)), ?_⟩)
  refine y_for (Rb := (pr2 I (pr2 I I))) (fun s2 : Int => ([("sets", some ((Sq true (Sq false I)) sets_)), ("ranks", some ((Sq true (pr2 I I)) ranks_)), ("best", some (I s2)), ("at", none), ("rank", none)] : En)) (fun s2 : Int => ([] : Ws)) (i_enmL (Rs := (pr2 I I)) (d_name (Has.s Has.z)) Bl.enumerate) (by walk_at "fg") (List.Perm.refl _) (by intro _; rfl) hz hp ?_ ?_
  · rintro ⟨Dn, Dr, Dk, Dc⟩ B1 hB1 hrt s2 y3 hp hz
    obtain rfl : Dr = _ := hrt
    refine ⟨_, _, (g_two (g_name (Put.s (Put.s (Put.s Put.z)))) (g_name (Put.s (Put.s (Put.s (Put.s Put.z)))))), ?_⟩
    obtain ⟨q6, hp⟩ := hp
    refine y_ifL (fun s4 : Int => ([("sets", some ((Sq true (Sq false I)) sets_)), ("ranks", some ((Sq true (pr2 I I)) ranks_)), ("best", some (I s4)), ("at", some (I y3.1)), ("rank", some ((pr2 I I) y3.2))] : En)) (fun s4 => ([] : Ws)) (t_gtP (d_name (Has.s (Has.s (Has.s (Has.s Has.z))))) (d_at (Rs := (pr2 I I)) q6 (d_name (Has.s Has.z)) (d_name (Has.s (Has.s Has.z))))) hz hp (fun hk hp hz => ?_) (fun hk hp hz => ?_) (fun s4 hz hp => ?_)
    · refine y_asg (R := I) (v := y3.1) (d_name (Has.s (Has.s (Has.s Has.z)))) hz hp (fun best_5 hz hp => ⟨_, (Put.s (Put.s Put.z)), ?_⟩)
      exact y_re (by walk_at "fg") (List.Perm.refl _) hz.h
    · exact y_re (by walk_at "fg") (List.Perm.refl _) hz.h
    · exact y_re (by walk_at "fg") (List.Perm.refl _) hz.h
  · intro s7 hz hp
    obtain ⟨q8, hp⟩ := hp
    exact ds_ret0 (T := (Sq false I) (gt sets_ s7)) hz.h (d_at (Rs := (Sq false I)) q8 (d_name Has.z) (d_name (Has.s (Has.s Has.z)))) rfl

theorem g_best_value {M : Mo} (Bl : Bx M) (P : Pr M "best_value" (stm 33) ["stock", "orders", "values"]) (G_fitting_sets : Gd M 14 "fitting_sets" ["stock", "orders"] (c_fitting_sets M)) (G_value_of : Gd M 1 "value_of" ["values", "chosen"] (c_value_of M)) (G_first_of_best__1 : Gd M 1 "first_of_best" ["sets", "ranks"] (c_first_of_best__1 M)) : Gd M 15 "best_value" ["stock", "orders", "values"] (c_best_value M) := by
  refine P.gd sc_best_value (by intro _; rfl) fun X B0 F0 D g hp hR hN => ?_
  obtain ⟨stock_, orders_, values_⟩ := g
  have hz : Go (fun B z => Rt B F0 D.rt ((Sq false I) z) []) B0 (v_best_value stock_ orders_ values_) := ⟨hR, fun _ _ _ e h => h.mono e⟩
  have hp : o_best_value stock_ orders_ values_ := hp
  clear hR
  dsimp only [mkΓ, c_best_value]
  unfold v_best_value at hz
  unfold o_best_value at hp
  obtain ⟨q6, hp⟩ := hp
  refine y_asg (R := (Sq true (Sq false I))) (v := (v_fitting_sets stock_ orders_)) (d_callQ (t := c_fitting_sets M) (true, stock_, orders_) G_fitting_sets q6 (a_cons (d_name Has.z) (a_cons (d_name (Has.s Has.z)) a_nil))) hz hp (fun sets_1 hz hp => ⟨_, (Put.s (Put.s (Put.s Put.z))), ?_⟩)
  obtain ⟨q3, q4, q5, hp⟩ := hp
  exact ds_ret0 hz.h (d_callQ (t := c_first_of_best__1 M) (sets_1, _) G_first_of_best__1 q5 (a_cons (d_name (Has.s (Has.s (Has.s Has.z)))) (a_cons (DNc.frz (n_map (R := (pr2 I I)) (f := fun y2 => ((v_value_of values_ y2), (-(y2.length : Int)))) (ok := fun y2 => (o_value_of values_ y2)) [("chosen", 4)] q4 q3 (i_seqL (Rs := (Sq false I)) (d_name (Has.s (Has.s (Has.s Has.z))))) (blkOk_by (by show blkC nm_best_value (defScope (stm 33)) _ _ = true; decide +kernel)) (by repeat constructor) (fun y2 h1 => ⟨_, _, (g_name (Put.s (Put.s (Put.s (Put.s Put.z))))), by simp, (d_tup (a_cons (d_callQ (t := c_value_of M) (values_, y2) G_value_of h1 (a_cons (d_name (Has.s (Has.s Has.z))) (a_cons (d_name (Has.s (Has.s (Has.s (Has.s Has.z))))) a_nil))) (a_cons (d_neg (d_len (Rs := I) (d_name (Has.s (Has.s (Has.s (Has.s Has.z))))) Bl.len)) a_nil)))⟩))) a_nil))) rfl

theorem g_blocking {M : Mo} (Bl : Bx M) (P : Pr M "blocking" (stm 34) ["stock", "orders", "chosen", "at"]) (G_too_few : Gd M 2 "too_few" ["stock", "orders", "chosen"] (c_too_few M)) : Gd M 3 "blocking" ["stock", "orders", "chosen", "at"] (c_blocking M) := by
  refine P.gd sc_blocking (by intro _; rfl) fun X B0 F0 D g hp hR hN => ?_
  obtain ⟨stock_, orders_, chosen_, at_⟩ := g
  have hz : Go (fun B z => Rt B F0 D.rt ((Sq false Tx) z) []) B0 (v_blocking stock_ orders_ chosen_ at_) := ⟨hR, fun _ _ _ e h => h.mono e⟩
  have hp : o_blocking stock_ orders_ chosen_ at_ := hp
  clear hR
  dsimp only [mkΓ, c_blocking]
  unfold v_blocking at hz
  unfold o_blocking at hp
  obtain ⟨q1, q2, hp⟩ := hp
  exact ds_ret0 (T := (Sq false Tx) (v_too_few stock_ orders_ (chosen_ ++ [at_]))) hz.h (d_callQ (t := c_too_few M) (false, true, true, stock_, orders_, (chosen_ ++ [at_])) G_too_few q2 (a_cons (d_name Has.z) (a_cons (d_name (Has.s Has.z)) (a_cons (DNc.frz (DN.c (n_cat (Rs := I) (DNc.frz (DN.c (n_list (Rs := I) (d_name (Has.s (Has.s Has.z))) Bl.list))) (DNc.frz (DN.c (n_lstQ I [at_] (a_cons (d_name (Has.s (Has.s (Has.s Has.z)))) a_nil)))) q1))) a_nil)))) rfl

theorem g__law_pool {M : Mo} (Bl : Bx M) (P : Pr M "_law_pool" (stm 36) ["script", "many"]) : Gn M 1 "_law_pool" ["script", "many"] (c__law_pool M) := by
  refine P.gn sc__law_pool (by intro _; rfl) fun X B0 F0 D g hp hR => ?_
  obtain ⟨script_, many_⟩ := g
  have hz : Go (fun B z => RtN B F0 D.rt (Cl I z) []) B0 (v__law_pool script_ many_) := ⟨hR, fun _ _ _ e h => h.mono e⟩
  have hp : o__law_pool script_ many_ := hp
  clear hR
  dsimp only [mkΓ, c__law_pool]
  unfold v__law_pool at hz
  unfold o__law_pool at hp
  obtain ⟨q68, q69, hp⟩ := hp
  refine y_map (R := I) (f := fun y1 => y1) (ok := fun y1 => True) [("cell", 7)] q69 q68 hz hp (i_seqL (Rs := I) (d_slK (d_name Has.z) o_none (o_some d_int))) (blkOk_by (by show blkC nm__law_pool (defScope (stm 36)) _ _ = true; decide +kernel)) (by repeat constructor) (fun y1 h1 => ⟨_, _, (g_name (Put.s (Put.s (Put.s (Put.s (Put.s (Put.s (Put.s Put.z)))))))), by simp, (d_intI (d_name (Has.s (Has.s (Has.s (Has.s (Has.s (Has.s (Has.s Has.z)))))))) Bl.int)⟩) (Put.s (Put.s Put.z)) (fun left_3 hz hp l_left1 => ⟨_, (Put.s (Put.s Put.z)), ?_⟩)
  refine y_ifA (fun (s4 : (List Int)) (a37 : Addr) => ([("script", some ((Sk M.K) script_)), ("many", some (I many_)), ("left", some (At a37)), ("pool", none), ("jar", none), ("k", none), ("at", none), ("cell", none)] : En)) (fun (s4 : (List Int)) (a37 : Addr) => [(a37, Cl I s4)]) (t_eqI (d_lenO (Rs := I) (d_name (Has.s (Has.s Has.z))) Hold.z Bl.len) d_int) hz hp (fun hk hp hz => ?_) (fun hk hp hz => ?_) (fun s4 hz hp a37 => ?_)
  · refine y_own (Cv := Cl I) (v := [(0 : Int)]) (DN.c (n_lstQ I [(0 : Int)] (a_cons d_int a_nil))) hz hp (fun left_6 hz hp l_left4 => ⟨_, (Put.s (Put.s Put.z)), ?_⟩)
    refine y_drop (Tak.s Tak.z) ?_
    exact y_re (by walk_at "fg") (List.Perm.refl _) (hz.h l_left4)
  · exact y_re (by walk_at "fg") (List.Perm.refl _) (hz.h l_left1)
  · refine y_own (Cv := Cl I) (v := ([] : List Int)) (DN.c (n_lstQ I ([] : List Int) a_nil)) hz hp (fun pool_39 hz hp l_pool37 => ⟨_, (Put.s (Put.s (Put.s Put.z))), ?_⟩)
    refine y_asg (R := I) (v := (7 : Int)) d_int hz hp (fun jar_40 hz hp => ⟨_, (Put.s (Put.s (Put.s (Put.s Put.z)))), ?_⟩)
    obtain ⟨q67, hp⟩ := hp
    refine y_for (Rb := I) (fun s41 : (List Int) × (List Int) × Int => ([("script", some ((Sk M.K) script_)), ("many", some (I many_)), ("left", some (At a37)), ("pool", some (At l_pool37)), ("jar", some (I s41.2.2)), ("k", none), ("at", none), ("cell", none)] : En)) (fun s41 : (List Int) × (List Int) × Int => [(l_pool37, Cl I s41.2.1), (a37, Cl I s41.1)]) (i_rng1L q67 (d_name (Has.s Has.z)) Bl.range) (by walk_at "fg") (List.Perm.refl _) (by intro _; rfl) hz hp ?_ ?_
    · rintro ⟨Dn, Dr, Dk, Dc⟩ B1 hB1 hrt s41 y42 hp hz
      obtain rfl : Dr = _ := hrt
      refine ⟨_, _, (g_name (Put.s (Put.s (Put.s (Put.s (Put.s Put.z)))))), ?_⟩
      obtain ⟨q64, hp⟩ := hp
      refine y_asg (R := I) (v := (y42 % (s41.1.length : Int))) (d_mod (d_name (Has.s (Has.s (Has.s (Has.s (Has.s Has.z)))))) (d_lenO (Rs := I) (d_name (Has.s (Has.s Has.z))) (Hold.s Hold.z) Bl.len) q64) hz hp (fun at_43 hz hp => ⟨_, (Put.s (Put.s (Put.s (Put.s (Put.s (Put.s Put.z)))))), ?_⟩)
      obtain ⟨q63, hp⟩ := hp
      refine y_asg (R := I) (v := (gt s41.1 at_43)) (d_atO (Rs := I) q63 (d_name (Has.s (Has.s Has.z))) (d_name (Has.s (Has.s (Has.s (Has.s (Has.s (Has.s Has.z))))))) (Hold.s Hold.z)) hz hp (fun cell_44 hz hp => ⟨_, (Put.s (Put.s (Put.s (Put.s (Put.s (Put.s (Put.s Put.z))))))), ?_⟩)
      refine y_ifL (fun s45 : (List Int) × (List Int) × Int => ([("script", some ((Sk M.K) script_)), ("many", some (I many_)), ("left", some (At a37)), ("pool", some (At l_pool37)), ("jar", some (I s45.2.2)), ("k", some (I y42)), ("at", some (I at_43)), ("cell", some (I cell_44))] : En)) (fun s45 => [(l_pool37, Cl I s45.2.1), (a37, Cl I s45.1)]) (t_ge (d_name (Has.s (Has.s (Has.s (Has.s (Has.s (Has.s (Has.s Has.z)))))))) (d_pow d_int d_int ⟨by decide, by decide, by decide⟩)) hz hp (fun hk hp hz => ?_) (fun hk hp hz => ?_) (fun s45 hz hp => ?_)
      · obtain ⟨q50, q51, hp⟩ := hp
        refine y_app (R := I) (v := (cell_44 % (1000003 : Int))) q50 hz hp (d_name (Has.s (Has.s (Has.s Has.z)))) Hold.z (d_mod (d_intI (d_name (Has.s (Has.s (Has.s (Has.s (Has.s (Has.s (Has.s Has.z)))))))) Bl.int) d_int q51) (fun pool_46 hz hp => ⟨_, Swp.z, ?_⟩)
        obtain ⟨q48, q49, hp⟩ := hp
        refine y_set (R := I) q49 hz hp (d_div (d_name (Has.s (Has.s (Has.s (Has.s (Has.s (Has.s (Has.s Has.z)))))))) d_int q48) (d_name (Has.s (Has.s Has.z))) (d_name (Has.s (Has.s (Has.s (Has.s (Has.s (Has.s Has.z))))))) (fun left_47 hz hp => ⟨_, (Swp.s Swp.z), ?_⟩)
        exact y_re (by walk_at "fg") (List.Perm.refl _) hz.h
      · obtain ⟨q58, q59, q60, q61, q62, hp⟩ := hp
        refine y_asg (R := I) (v := (((((s41.2.2 * s41.2.2) + ((cell_44 % (1000003 : Int)) * (40014 : Int))) + (y42 * (7919 : Int))) + (11 : Int)) % (1000003 : Int))) (d_mod (d_add (d_add (d_add (d_mul (d_name (Has.s (Has.s (Has.s (Has.s Has.z))))) (d_name (Has.s (Has.s (Has.s (Has.s Has.z))))) q58) (d_mul (d_mod (d_intI (d_name (Has.s (Has.s (Has.s (Has.s (Has.s (Has.s (Has.s Has.z)))))))) Bl.int) d_int q59) d_int q60)) (d_mul (d_name (Has.s (Has.s (Has.s (Has.s (Has.s Has.z)))))) d_int q61)) d_int) d_int q62) hz hp (fun jar_52 hz hp => ⟨_, (Put.s (Put.s (Put.s (Put.s Put.z)))), ?_⟩)
        obtain ⟨q54, q55, q56, q57, hp⟩ := hp
        refine y_app (R := I) (v := (((jar_52 * (48271 : Int)) + (jar_52 / (7 : Int))) % (999983 : Int))) q54 hz hp (d_name (Has.s (Has.s (Has.s Has.z)))) Hold.z (d_mod (d_add (d_mul (d_name (Has.s (Has.s (Has.s (Has.s Has.z))))) d_int q55) (d_div (d_name (Has.s (Has.s (Has.s (Has.s Has.z))))) d_int q56)) d_int q57) (fun pool_53 hz hp => ⟨_, Swp.z, ?_⟩)
        exact y_re (by walk_at "fg") (List.Perm.refl _) hz.h
      · exact y_re (by walk_at "fg") (List.Perm.refl _) hz.h
    · intro s65 hz hp
      refine y_rev (R := I) hz hp (d_name (Has.s (Has.s (Has.s Has.z)))) Hold.z (fun pool_66 hz hp => ⟨_, Swp.z, ?_⟩)
      exact ds_retN hz.h (d_name (Has.s (Has.s (Has.s Has.z)))) Tak.z

theorem g__law_draw {M : Mo} (Bl : Bx M) (P : Pr M "_law_draw" (stm 37) ["pool", "many"]) : Gd M 1 "_law_draw" ["pool", "many"] (c__law_draw M) := by
  refine P.gd sc__law_draw (by intro _; rfl) fun X B0 F0 D g hp hR hN => ?_
  obtain ⟨l_pool, pool_, many_⟩ := g
  have hz : Go (fun B z => Rt B F0 D.rt (I z.1) [(l_pool, Cl I z.2)]) B0 (v__law_draw pool_ many_) := ⟨hR, fun _ _ _ e h => h.mono e⟩
  have hp : o__law_draw pool_ many_ := hp
  clear hR
  dsimp only [mkΓ, c__law_draw]
  unfold v__law_draw at hz
  unfold o__law_draw at hp
  refine y_ite (t_eqI (d_lenO (Rs := I) (d_name Has.z) Hold.z Bl.len) d_int) hz hp (fun hk hz hp => ?_) (fun hk hz hp => ?_)
  · exact y_retS (S := I (0 : Int)) d_int hz.h (List.Perm.refl _)
  · refine ds_next ?_
    obtain ⟨q1, q2, hp⟩ := hp
    exact y_retS (S := I ((gtl pool_) % many_)) (d_mod (d_intI (d_popL (Rs := I) q1 (d_name Has.z) Swp.z) Bl.int) (d_name (Has.s Has.z)) q2) hz.h (List.Perm.refl _)
end K24

set_option maxHeartbeats 2000000
/-! walks (printed by tr.py) -/
namespace K24
open PySem PySem.Spec PyProof.Rows L2 ZZ
open Evl (Ex)
local macro_rules | `(tactic| walk_at "fg") => `(tactic| (repeat (first | exact Fg.nil | (with_reducible refine Fg.keep rfl ?_) | (with_reducible refine Fg.drop ?_))))
local macro_rules | `(tactic| walk_at "nonb") => `(tactic| first | exact nonb_I | exact nonb_No | exact nonb_Bo | exact nonb_S | exact nonb_seq | exact nonb_tup)
local macro_rules | `(tactic| walk_at "istb") => `(tactic| first | exact istb_sc | exact istb_seq | exact istb_tup)
theorem g__law_word {M : Mo} (Bl : Bx M) (P : Pr M "_law_word" (stm 39) ["pool", "words"]) (G__law_draw : Gd M 1 "_law_draw" ["pool", "many"] (c__law_draw M)) : Gd M 2 "_law_word" ["pool", "words"] (c__law_word M) := by
  refine P.gd sc__law_word (by intro _; rfl) fun X B0 F0 D g hp hR hN => ?_
  obtain ⟨l_pool, pool_, words_⟩ := g
  have hz : Go (fun B z => Rt B F0 D.rt (Tx z.1) [(l_pool, Cl I z.2)]) B0 (v__law_word pool_ words_) := ⟨hR, fun _ _ _ e h => h.mono e⟩
  have hp : o__law_word pool_ words_ := hp
  clear hR
  dsimp only [mkΓ, c__law_word]
  unfold v__law_word at hz
  unfold o__law_word at hp
  refine y_asg (R := Tx) (v := ("abcdefghijklmnopqrstuvwxy" : Str)) d_str hz hp (fun letters_1 hz hp => ⟨_, (Put.s (Put.s Put.z)), ?_⟩)
  obtain ⟨q45, hp⟩ := hp
  refine y_asgS (R := I) (d := ((v__law_draw pool_ (1000003 : Int)).1, (v__law_draw pool_ (1000003 : Int)).2)) (fun w3 => [(l_pool, Cl I w3)]) hz hp (d_callP (t := c__law_draw M) (l_pool, pool_, (1000003 : Int)) G__law_draw q45 (Tak.perm Tak.z) (Tak.perm Tak.z).symm (a_cons (d_name Has.z) (a_cons d_int a_nil))) (fun s2 hz hp => ⟨_, (Put.s (Put.s (Put.s Put.z))), ?_⟩)
  obtain ⟨q44, hp⟩ := hp
  refine y_asgS (R := I) (d := ((v__law_draw s2.2 (1000003 : Int)).1, (v__law_draw s2.2 (1000003 : Int)).2)) (fun w5 => [(l_pool, Cl I w5)]) hz hp (d_callP (t := c__law_draw M) (l_pool, s2.2, (1000003 : Int)) G__law_draw q44 (Tak.perm Tak.z) (Tak.perm Tak.z).symm (a_cons (d_name Has.z) (a_cons d_int a_nil))) (fun s4 hz hp => ⟨_, (Put.s (Put.s (Put.s (Put.s Put.z)))), ?_⟩)
  obtain ⟨q43, hp⟩ := hp
  refine y_asgS (R := I) (d := (((1 : Int) + (v__law_draw s4.2 (8 : Int)).1), (v__law_draw s4.2 (8 : Int)).2)) (fun w7 => [(l_pool, Cl I w7)]) hz hp (d_add d_int (d_callP (t := c__law_draw M) (l_pool, s4.2, (8 : Int)) G__law_draw q43 (Tak.perm Tak.z) (Tak.perm Tak.z).symm (a_cons (d_name Has.z) (a_cons d_int a_nil)))) (fun s6 hz hp => ⟨_, (Put.s (Put.s (Put.s (Put.s (Put.s Put.z))))), ?_⟩)
  obtain ⟨q42, hp⟩ := hp
  refine y_ifLS (d := ((decide ((v__law_draw s6.2 (2 : Int)).1 = (0 : Int))), (v__law_draw s6.2 (2 : Int)).2)) (fun s10 : (List Int) × Int => ([("pool", some (At l_pool)), ("words", some ((Sq true Tx) words_)), ("letters", some (Tx letters_1)), ("one", some (I s2.1)), ("other", some (I s4.1)), ("size", some (I s10.2)), ("word", none), ("k", none), ("base", none)] : En)) (fun s10 => [(l_pool, Cl I s10.1)]) (fun w9 => [(l_pool, Cl I w9)]) hz hp (t_eqI (d_callP (t := c__law_draw M) (l_pool, s6.2, (2 : Int)) G__law_draw q42 (Tak.perm Tak.z) (Tak.perm Tak.z).symm (a_cons (d_name Has.z) (a_cons d_int a_nil))) d_int) (fun s8 hk hp hz => ?_) (fun s8 hk hp hz => ?_) (fun s10 hz hp => ?_)
  · obtain ⟨q12, hp⟩ := hp
    refine y_asg (R := I) (v := ((1 : Int) + (s6.1 % (2 : Int)))) (d_add d_int (d_mod (d_name (Has.s (Has.s (Has.s (Has.s (Has.s Has.z)))))) d_int q12)) hz hp (fun size_11 hz hp => ⟨_, (Put.s (Put.s (Put.s (Put.s (Put.s Put.z))))), ?_⟩)
    exact y_re (by walk_at "fg") (List.Perm.refl _) hz.h
  · exact y_re (by walk_at "fg") (List.Perm.refl _) hz.h
  · refine y_asg (R := Tx) (v := ("" : Str)) d_str hz hp (fun word_13 hz hp => ⟨_, (Put.s (Put.s (Put.s (Put.s (Put.s (Put.s Put.z)))))), ?_⟩)
    obtain ⟨q41, hp⟩ := hp
    refine y_for (Rb := I) (fun s14 : Int × Int × Str => ([("pool", some (At l_pool)), ("words", some ((Sq true Tx) words_)), ("letters", some (Tx letters_1)), ("one", some (I s14.1)), ("other", some (I s14.2.1)), ("size", some (I s10.2)), ("word", some (Tx s14.2.2)), ("k", none), ("base", none)] : En)) (fun s14 : Int × Int × Str => [(l_pool, Cl I s10.1)]) (i_rng1L q41 (d_name (Has.s (Has.s (Has.s (Has.s (Has.s Has.z)))))) Bl.range) (by walk_at "fg") (List.Perm.refl _) (by intro _; rfl) hz hp ?_ ?_
    · rintro ⟨Dn, Dr, Dk, Dc⟩ B1 hB1 hrt s14 y15 hp hz
      obtain rfl : Dr = _ := hrt
      refine ⟨_, _, (g_name (Put.s (Put.s (Put.s (Put.s (Put.s (Put.s (Put.s Put.z)))))))), ?_⟩
      obtain ⟨q29, hp⟩ := hp
      refine y_ifL (fun s16 : Int × Int × Str => ([("pool", some (At l_pool)), ("words", some ((Sq true Tx) words_)), ("letters", some (Tx letters_1)), ("one", some (I s16.1)), ("other", some (I s16.2.1)), ("size", some (I s10.2)), ("word", some (Tx s16.2.2)), ("k", some (I y15)), ("base", none)] : En)) (fun s16 => [(l_pool, Cl I s10.1)]) (t_eqI (d_mod (d_name (Has.s (Has.s (Has.s (Has.s (Has.s (Has.s (Has.s Has.z)))))))) d_int q29) d_int) hz hp (fun hk hp hz => ?_) (fun hk hp hz => ?_) (fun s16 hz hp => ?_)
      · obtain ⟨q20, q21, q22, hp⟩ := hp
        refine y_asg (R := Tx) (v := (s14.2.2 ++ (sgt letters_1 (s14.1 % (25 : Int))))) (d_addS q22 (d_name (Has.s (Has.s (Has.s (Has.s (Has.s (Has.s Has.z))))))) (d_sat q21 (d_name (Has.s (Has.s Has.z))) (d_mod (d_name (Has.s (Has.s (Has.s Has.z)))) d_int q20))) hz hp (fun word_17 hz hp => ⟨_, (Put.s (Put.s (Put.s (Put.s (Put.s (Put.s Put.z)))))), ?_⟩)
        obtain ⟨q19, hp⟩ := hp
        refine y_asg (R := I) (v := (s14.1 / (25 : Int))) (d_div (d_name (Has.s (Has.s (Has.s Has.z)))) d_int q19) hz hp (fun one_18 hz hp => ⟨_, (Put.s (Put.s (Put.s Put.z))), ?_⟩)
        exact y_re (by walk_at "fg") (List.Perm.refl _) hz.h
      · obtain ⟨q26, q27, q28, hp⟩ := hp
        refine y_asg (R := Tx) (v := (s14.2.2 ++ (sgt letters_1 (s14.2.1 % (25 : Int))))) (d_addS q28 (d_name (Has.s (Has.s (Has.s (Has.s (Has.s (Has.s Has.z))))))) (d_sat q27 (d_name (Has.s (Has.s Has.z))) (d_mod (d_name (Has.s (Has.s (Has.s (Has.s Has.z))))) d_int q26))) hz hp (fun word_23 hz hp => ⟨_, (Put.s (Put.s (Put.s (Put.s (Put.s (Put.s Put.z)))))), ?_⟩)
        obtain ⟨q25, hp⟩ := hp
        refine y_asg (R := I) (v := (s14.2.1 / (25 : Int))) (d_div (d_name (Has.s (Has.s (Has.s (Has.s Has.z))))) d_int q25) hz hp (fun other_24 hz hp => ⟨_, (Put.s (Put.s (Put.s (Put.s Put.z)))), ?_⟩)
        exact y_re (by walk_at "fg") (List.Perm.refl _) hz.h
      · exact y_re (by walk_at "fg") (List.Perm.refl _) hz.h
    · intro s30 hz hp
      obtain ⟨q40, hp⟩ := hp
      refine y_asg (R := Tx) (v := (cutS s30.2.2 none (some (7 : Int)))) (d_slS q40 (d_name (Has.s (Has.s (Has.s (Has.s (Has.s (Has.s Has.z))))))) o_none (o_some d_int)) hz hp (fun base_31 hz hp => ⟨_, (Put.s (Put.s (Put.s (Put.s (Put.s (Put.s (Put.s (Put.s Put.z)))))))), ?_⟩)
      obtain ⟨q39, hp⟩ := hp
      refine y_for (Rb := I) (fun s32 : Str => ([("pool", some (At l_pool)), ("words", some ((Sq true Tx) words_)), ("letters", some (Tx letters_1)), ("one", some (I s30.1)), ("other", some (I s30.2.1)), ("size", some (I s10.2)), ("word", some (Tx s32)), ("k", none), ("base", some (Tx base_31))] : En)) (fun s32 : Str => [(l_pool, Cl I s10.1)]) (i_rng1L q39 d_int Bl.range) (by walk_at "fg") (List.Perm.refl _) (by intro _; rfl) hz hp ?_ ?_
      · rintro ⟨Dn, Dr, Dk, Dc⟩ B1 hB1 hrt s32 y33 hp hz
        obtain rfl : Dr = _ := hrt
        refine ⟨_, _, (g_name (Put.s (Put.s (Put.s (Put.s (Put.s (Put.s (Put.s Put.z)))))))), ?_⟩
        refine y_ifL (fun s34 : Str => ([("pool", some (At l_pool)), ("words", some ((Sq true Tx) words_)), ("letters", some (Tx letters_1)), ("one", some (I s30.1)), ("other", some (I s30.2.1)), ("size", some (I s10.2)), ("word", some (Tx s34)), ("k", some (I y33)), ("base", some (Tx base_31))] : En)) (fun s34 => [(l_pool, Cl I s10.1)]) (t_in (R := Tx) (d_name (Has.s (Has.s (Has.s (Has.s (Has.s (Has.s Has.z))))))) (d_name (Has.s Has.z))) hz hp (fun hk hp hz => ?_) (fun hk hp hz => ?_) (fun s34 hz hp => ?_)
        · obtain ⟨q36, q37, hp⟩ := hp
          refine y_asg (R := Tx) (v := ((sgt letters_1 y33) ++ base_31)) (d_addS q37 (d_sat q36 (d_name (Has.s (Has.s Has.z))) (d_name (Has.s (Has.s (Has.s (Has.s (Has.s (Has.s (Has.s Has.z))))))))) (d_name (Has.s (Has.s (Has.s (Has.s (Has.s (Has.s (Has.s (Has.s Has.z)))))))))) hz hp (fun word_35 hz hp => ⟨_, (Put.s (Put.s (Put.s (Put.s (Put.s (Put.s Put.z)))))), ?_⟩)
          exact y_re (by walk_at "fg") (List.Perm.refl _) hz.h
        · exact y_re (by walk_at "fg") (List.Perm.refl _) hz.h
        · exact y_re (by walk_at "fg") (List.Perm.refl _) hz.h
      · intro s38 hz hp
        exact y_retS (S := Tx s38) (d_name (Has.s (Has.s (Has.s (Has.s (Has.s (Has.s Has.z))))))) hz.h (List.Perm.refl _)

theorem g__law_values {M : Mo} (Bl : Bx M) (P : Pr M "_law_values" (stm 40) ["pool", "many"]) (G__law_draw : Gd M 1 "_law_draw" ["pool", "many"] (c__law_draw M)) : Gd M 2 "_law_values" ["pool", "many"] (c__law_values M) := by
  refine P.gd sc__law_values (by intro _; rfl) fun X B0 F0 D g hp hR hN => ?_
  obtain ⟨l_pool, pool_, many_⟩ := g
  have hz : Go (fun B z => Rt B F0 D.rt ((Sq true I) z.1) [(l_pool, Cl I z.2)]) B0 (v__law_values pool_ many_) := ⟨hR, fun _ _ _ e h => h.mono e⟩
  have hp : o__law_values pool_ many_ := hp
  clear hR
  dsimp only [mkΓ, c__law_values]
  unfold v__law_values at hz
  unfold o__law_values at hp
  refine y_own (Cv := Cl I) (v := ([] : List Int)) (DN.c (n_lstQ I ([] : List Int) a_nil)) hz hp (fun values_2 hz hp l_values0 => ⟨_, (Put.s (Put.s Put.z)), ?_⟩)
  obtain ⟨q24, hp⟩ := hp
  refine y_for (Rb := I) (fun s3 : (List Int) × (List Int) => ([("pool", some (At l_pool)), ("many", some (I many_)), ("values", some (At l_values0)), ("k", none), ("one", none), ("other", none), ("third", none)] : En)) (fun s3 : (List Int) × (List Int) => [(l_values0, Cl I s3.2), (l_pool, Cl I s3.1)]) (i_rng1L q24 (d_name (Has.s Has.z)) Bl.range) (by walk_at "fg") (List.Perm.refl _) (by intro _; rfl) hz hp ?_ ?_
  · rintro ⟨Dn, Dr, Dk, Dc⟩ B1 hB1 hrt s3 y4 hp hz
    obtain rfl : Dr = _ := hrt
    refine ⟨_, _, (g_name (Put.s (Put.s (Put.s Put.z)))), ?_⟩
    obtain ⟨q18, q19, hp⟩ := hp
    refine y_asgS (R := I) (d := (((v__law_draw s3.1 (4 : Int)).1 * (50 : Int)), (v__law_draw s3.1 (4 : Int)).2)) (fun w6 => [(l_values0, Cl I s3.2), (l_pool, Cl I w6)]) hz hp (d_mul (d_callP (t := c__law_draw M) (l_pool, s3.1, (4 : Int)) G__law_draw q18 (Tak.perm (Tak.s Tak.z)) (Tak.perm (Tak.s Tak.z)).symm (a_cons (d_name Has.z) (a_cons d_int a_nil))) d_int q19) (fun s5 hz hp => ⟨_, (Put.s (Put.s (Put.s (Put.s Put.z)))), ?_⟩)
    obtain ⟨q17, hp⟩ := hp
    refine y_asgS (R := I) (d := ((v__law_draw s5.2 (12 : Int)).1, (v__law_draw s5.2 (12 : Int)).2)) (fun w8 => [(l_values0, Cl I s3.2), (l_pool, Cl I w8)]) hz hp (d_callP (t := c__law_draw M) (l_pool, s5.2, (12 : Int)) G__law_draw q17 (Tak.perm (Tak.s Tak.z)) (Tak.perm (Tak.s Tak.z)).symm (a_cons (d_name Has.z) (a_cons d_int a_nil))) (fun s7 hz hp => ⟨_, (Put.s (Put.s (Put.s (Put.s (Put.s Put.z))))), ?_⟩)
    obtain ⟨q16, hp⟩ := hp
    refine y_asgS (R := I) (d := ((v__law_draw s7.2 (100000 : Int)).1, (v__law_draw s7.2 (100000 : Int)).2)) (fun w10 => [(l_values0, Cl I s3.2), (l_pool, Cl I w10)]) hz hp (d_callP (t := c__law_draw M) (l_pool, s7.2, (100000 : Int)) G__law_draw q16 (Tak.perm (Tak.s Tak.z)) (Tak.perm (Tak.s Tak.z)).symm (a_cons (d_name Has.z) (a_cons d_int a_nil))) (fun s9 hz hp => ⟨_, (Put.s (Put.s (Put.s (Put.s (Put.s (Put.s Put.z)))))), ?_⟩)
    obtain ⟨q13, q14, q15, hp⟩ := hp
    refine y_appS (R := I) (d := ((gt ([s5.1, s7.1, s9.1]) ((v__law_draw s9.2 (3 : Int)).1)), (v__law_draw s9.2 (3 : Int)).2)) (fun w12 => [(l_values0, Cl I s3.2), (l_pool, Cl I w12)]) q13 hz hp (d_name (Has.s (Has.s Has.z))) Hold.z (d_at (Rs := I) q15 (DNc.frz (DN.c (n_lstQ I [s5.1, s7.1, s9.1] (a_cons (d_name (Has.s (Has.s (Has.s (Has.s Has.z))))) (a_cons (d_name (Has.s (Has.s (Has.s (Has.s (Has.s Has.z)))))) (a_cons (d_name (Has.s (Has.s (Has.s (Has.s (Has.s (Has.s Has.z))))))) a_nil)))))) (d_callP (t := c__law_draw M) (l_pool, s9.2, (3 : Int)) G__law_draw q14 (Tak.perm (Tak.s Tak.z)) (Tak.perm (Tak.s Tak.z)).symm (a_cons (d_name Has.z) (a_cons d_int a_nil)))) (fun s11 hz hp => ⟨_, Swp.z, ?_⟩)
    exact y_re (by walk_at "fg") (List.Perm.refl _) hz.h
  · intro s20 hz hp
    refine y_ifL (fun s21 : (List Int) => ([("pool", some (At l_pool)), ("many", some (I many_)), ("values", some (At l_values0)), ("k", none), ("one", none), ("other", none), ("third", none)] : En)) (fun s21 => [(l_values0, Cl I s21), (l_pool, Cl I s20.1)]) (t_eqI (d_lend (Upg.s (Upg.s Upg.z)) Tak.z (flC flN) (d_sumB (d_name (Has.s (Has.s Has.z))) Bl.sum)) d_int) hz hp (fun hk hp hz => ?_) (fun hk hp hz => ?_) (fun s21 hz hp => ?_)
    · obtain ⟨q23, hp⟩ := hp
      refine y_set (R := I) q23 hz hp d_int (d_name (Has.s (Has.s Has.z))) d_int (fun values_22 hz hp => ⟨_, Swp.z, ?_⟩)
      exact y_re (by walk_at "fg") (List.Perm.refl _) hz.h
    · exact y_re (by walk_at "fg") (List.Perm.refl _) hz.h
    · refine ds_freeze (Upg.s (Upg.s Upg.z)) Tak.z ?_
      exact y_retS (S := (Sq true I) s21) (d_name (Has.s (Has.s Has.z))) hz.h (List.Perm.refl _)

theorem g__law_falling {M : Mo} (Bl : Bx M) (P : Pr M "_law_falling" (stm 41) ["values"]) : Gd M 1 "_law_falling" ["values"] (c__law_falling M) := by
  refine P.gd sc__law_falling (by intro _; rfl) fun X B0 F0 D g hp hR hN => ?_
  generalize hg0 : g = values_ at *
  have hz : Go (fun B z => Rt B F0 D.rt ((Sq true I) z) []) B0 (v__law_falling values_) := ⟨hR, fun _ _ _ e h => h.mono e⟩
  have hp : o__law_falling values_ := hp
  clear hR
  dsimp only [mkΓ, c__law_falling]
  unfold v__law_falling at hz
  unfold o__law_falling at hp
  refine y_own (Cv := Cl I) (v := ([] : List Int)) (DN.c (n_lstQ I ([] : List Int) a_nil)) hz hp (fun order_2 hz hp l_order0 => ⟨_, (Put.s Put.z), ?_⟩)
  obtain ⟨q18, hp⟩ := hp
  refine y_for (Rb := I) (fun s3 : (List Int) => ([("values", some ((Sq true I) values_)), ("order", some (At l_order0)), ("turn", none), ("best", none), ("k", none)] : En)) (fun s3 : (List Int) => [(l_order0, Cl I s3)]) (i_rng1L q18 (d_len (Rs := I) (d_name Has.z) Bl.len) Bl.range) (by walk_at "fg") (List.Perm.refl _) (by intro _; rfl) hz hp ?_ ?_
  · rintro ⟨Dn, Dr, Dk, Dc⟩ B1 hB1 hrt s3 y4 hp hz
    obtain rfl : Dr = _ := hrt
    refine ⟨_, _, (g_name (Put.s (Put.s Put.z))), ?_⟩
    refine y_asg (R := I) (v := (-1 : Int)) (d_neg d_int) hz hp (fun best_5 hz hp => ⟨_, (Put.s (Put.s (Put.s Put.z))), ?_⟩)
    obtain ⟨q16, hp⟩ := hp
    refine y_for (Rb := I) (fun s6 : Int => ([("values", some ((Sq true I) values_)), ("order", some (At l_order0)), ("turn", some (I y4)), ("best", some (I s6)), ("k", none)] : En)) (fun s6 : Int => [(l_order0, Cl I s3)]) (i_rng1L q16 (d_len (Rs := I) (d_name Has.z) Bl.len) Bl.range) (by walk_at "fg") (List.Perm.refl _) (by intro _; rfl) hz hp ?_ ?_
    · rintro ⟨Dn, Dr, Dk, Dc⟩ B1 hB1 hrt s6 y7 hp hz
      obtain rfl : Dr = _ := hrt
      refine ⟨_, _, (g_name (Put.s (Put.s (Put.s (Put.s Put.z))))), ?_⟩
      obtain ⟨q12, hp⟩ := hp
      refine y_ifL (fun s10 : Int => ([("values", some ((Sq true I) values_)), ("order", some (At l_order0)), ("turn", some (I y4)), ("best", some (I s10)), ("k", some (I y7))] : En)) (fun s10 => [(l_order0, Cl I s3)]) (t_w (w_and (t_notinO (R := I) (d_name (Has.s (Has.s (Has.s (Has.s Has.z))))) (d_name (Has.s Has.z)) Hold.z) (fun hc8 => (ZZ.v_and1 (t_w (w_or (t_lt (d_name (Has.s (Has.s (Has.s Has.z)))) d_int) (fun hc9 => (ZZ.v_or1 (t_gt (d_at (Rs := I) ((q12 hc8) hc9).1 (d_name Has.z) (d_name (Has.s (Has.s (Has.s (Has.s Has.z)))))) (d_at (Rs := I) ((q12 hc8) hc9).2 (d_name Has.z) (d_name (Has.s (Has.s (Has.s Has.z)))))))))))))) hz hp (fun hk hp hz => ?_) (fun hk hp hz => ?_) (fun s10 hz hp => ?_)
      · refine y_asg (R := I) (v := y7) (d_name (Has.s (Has.s (Has.s (Has.s Has.z))))) hz hp (fun best_11 hz hp => ⟨_, (Put.s (Put.s (Put.s Put.z))), ?_⟩)
        exact y_re (by walk_at "fg") (List.Perm.refl _) hz.h
      · exact y_re (by walk_at "fg") (List.Perm.refl _) hz.h
      · exact y_re (by walk_at "fg") (List.Perm.refl _) hz.h
    · intro s13 hz hp
      obtain ⟨q15, hp⟩ := hp
      refine y_app (R := I) (v := s13) q15 hz hp (d_name (Has.s Has.z)) Hold.z (d_name (Has.s (Has.s (Has.s Has.z)))) (fun order_14 hz hp => ⟨_, Swp.z, ?_⟩)
      exact y_re (by walk_at "fg") (List.Perm.refl _) hz.h
  · intro s17 hz hp
    refine ds_freeze (Upg.s Upg.z) Tak.z ?_
    exact ds_ret0 (T := (Sq true I) s17) hz.h (d_name (Has.s Has.z)) rfl

theorem g__law_beginning {M : Mo} (Bl : Bx M) (P : Pr M "_law_beginning" (stm 42) ["values", "order", "percent"]) : Gd M 1 "_law_beginning" ["values", "order", "percent"] (c__law_beginning M) := by
  refine P.gd sc__law_beginning (by intro _; rfl) fun X B0 F0 D g hp hR hN => ?_
  obtain ⟨values_, order_, percent_⟩ := g
  have hz : Go (fun B z => Rt B F0 D.rt (I z) []) B0 (v__law_beginning values_ order_ percent_) := ⟨hR, fun _ _ _ e h => h.mono e⟩
  have hp : o__law_beginning values_ order_ percent_ := hp
  clear hR
  dsimp only [mkΓ, c__law_beginning]
  unfold v__law_beginning at hz
  unfold o__law_beginning at hp
  refine y_asg (R := I) (v := (0 : Int)) d_int hz hp (fun part_1 hz hp => ⟨_, (Put.s (Put.s (Put.s Put.z))), ?_⟩)
  refine y_asg (R := I) (v := (0 : Int)) d_int hz hp (fun many_2 hz hp => ⟨_, (Put.s (Put.s (Put.s (Put.s Put.z)))), ?_⟩)
  refine y_forC (Rb := I) (fun s3 : Int × Int => ([("values", some ((Sq true I) values_)), ("order", some ((Sq true I) order_)), ("percent", some (I percent_)), ("part", some (I s3.1)), ("many", some (I s3.2)), ("place", none)] : En)) (fun s3 : Int × Int => ([] : Ws)) (i_seqL (Rs := I) (d_name (Has.s Has.z))) (by walk_at "fg") (List.Perm.refl _) (by intro _; rfl) hz hp ?_ ?_
  · rintro ⟨Dn, Dr, Dk, Dc⟩ B1 hB1 hrt s3 y4 hp hz
    obtain rfl : Dr = _ := hrt
    refine ⟨_, _, (g_name (Put.s (Put.s (Put.s (Put.s (Put.s Put.z)))))), ?_⟩
    obtain ⟨q8, q9, hp⟩ := hp
    refine y_ite (t_ge (d_mul (d_name (Has.s (Has.s (Has.s Has.z)))) d_int q8) (d_mul (d_name (Has.s (Has.s Has.z))) (d_sumB (d_name Has.z) Bl.sum) q9)) hz hp (fun hk hz hp => ?_) (fun hk hz hp => ?_)
    · exact y_brk (by walk_at "fg") (List.Perm.refl _) hz.h
    · refine ds_next ?_
      obtain ⟨q7, hp⟩ := hp
      refine y_asg (R := I) (v := (s3.1 + (gt values_ y4))) (d_add (d_name (Has.s (Has.s (Has.s Has.z)))) (d_at (Rs := I) q7 (d_name Has.z) (d_name (Has.s (Has.s (Has.s (Has.s (Has.s Has.z)))))))) hz hp (fun part_5 hz hp => ⟨_, (Put.s (Put.s (Put.s Put.z))), ?_⟩)
      refine y_asg (R := I) (v := (s3.2 + (1 : Int))) (d_add (d_name (Has.s (Has.s (Has.s (Has.s Has.z))))) d_int) hz hp (fun many_6 hz hp => ⟨_, (Put.s (Put.s (Put.s (Put.s Put.z)))), ?_⟩)
      exact y_re (by walk_at "fg") (List.Perm.refl _) hz.h.1
  · intro s10 hz hp
    exact ds_ret0 (T := I s10.2) hz.h (d_name (Has.s (Has.s (Has.s (Has.s Has.z))))) rfl

theorem g__law_percent {M : Mo} (Bl : Bx M) (P : Pr M "_law_percent" (stm 43) ["pool", "values", "order"]) (G__law_draw : Gd M 1 "_law_draw" ["pool", "many"] (c__law_draw M)) : Gd M 2 "_law_percent" ["pool", "values", "order"] (c__law_percent M) := by
  refine P.gd sc__law_percent (by intro _; rfl) fun X B0 F0 D g hp hR hN => ?_
  obtain ⟨l_pool, pool_, values_, order_⟩ := g
  have hz : Go (fun B z => Rt B F0 D.rt (I z.1) [(l_pool, Cl I z.2)]) B0 (v__law_percent pool_ values_ order_) := ⟨hR, fun _ _ _ e h => h.mono e⟩
  have hp : o__law_percent pool_ values_ order_ := hp
  clear hR
  dsimp only [mkΓ, c__law_percent]
  unfold v__law_percent at hz
  unfold o__law_percent at hp
  obtain ⟨q19, hp⟩ := hp
  refine y_asgS (R := I) (d := ((v__law_draw pool_ (order_.length : Int)).1, (v__law_draw pool_ (order_.length : Int)).2)) (fun w2 => [(l_pool, Cl I w2)]) hz hp (d_callP (t := c__law_draw M) (l_pool, pool_, (order_.length : Int)) G__law_draw q19 (Tak.perm Tak.z) (Tak.perm Tak.z).symm (a_cons (d_name Has.z) (a_cons (d_len (Rs := I) (d_name (Has.s (Has.s Has.z))) Bl.len) a_nil))) (fun s1 hz hp => ⟨_, (Put.s (Put.s (Put.s Put.z))), ?_⟩)
  obtain ⟨q17, q18, hp⟩ := hp
  refine y_asg (R := I) (v := ((cut order_ none (some (s1.1 + (1 : Int)))).map fun y3 => (gt values_ y3)).sum) (d_sumB (DNc.frz (n_map (R := I) (f := fun y3 => (gt values_ y3)) (ok := fun y3 => (okx values_ y3)) [("k", 6)] q18 q17 (i_seqL (Rs := I) (d_sl (d_name (Has.s (Has.s Has.z))) o_none (o_some (d_add (d_name (Has.s (Has.s (Has.s Has.z)))) d_int)))) (blkOk_by (by show blkC nm__law_percent (defScope (stm 43)) _ _ = true; decide +kernel)) (by repeat constructor) (fun y3 h1 => ⟨_, _, (g_name (Put.s (Put.s (Put.s (Put.s (Put.s (Put.s Put.z))))))), by simp, (d_at (Rs := I) h1 (d_name (Has.s Has.z)) (d_name (Has.s (Has.s (Has.s (Has.s (Has.s (Has.s Has.z))))))))⟩))) Bl.sum) hz hp (fun part_4 hz hp => ⟨_, (Put.s (Put.s (Put.s (Put.s Put.z)))), ?_⟩)
  obtain ⟨q14, q15, q16, hp⟩ := hp
  refine y_asgS (R := I) (d := ((((part_4 * (100 : Int)) / values_.sum) + (v__law_draw s1.2 (2 : Int)).1), (v__law_draw s1.2 (2 : Int)).2)) (fun w6 => [(l_pool, Cl I w6)]) hz hp (d_add (d_div (d_mul (d_name (Has.s (Has.s (Has.s (Has.s Has.z))))) d_int q14) (d_sumB (d_name (Has.s Has.z)) Bl.sum) q15) (d_callP (t := c__law_draw M) (l_pool, s1.2, (2 : Int)) G__law_draw q16 (Tak.perm Tak.z) (Tak.perm Tak.z).symm (a_cons (d_name Has.z) (a_cons d_int a_nil)))) (fun s5 hz hp => ⟨_, (Put.s (Put.s (Put.s (Put.s (Put.s Put.z))))), ?_⟩)
  obtain ⟨q13, hp⟩ := hp
  refine y_ifLS (d := ((decide ((v__law_draw s5.2 (3 : Int)).1 = (0 : Int))), (v__law_draw s5.2 (3 : Int)).2)) (fun s9 : (List Int) × Int => ([("pool", some (At l_pool)), ("values", some ((Sq true I) values_)), ("order", some ((Sq true I) order_)), ("place", some (I s1.1)), ("part", some (I part_4)), ("percent", some (I s9.2)), ("k", none)] : En)) (fun s9 => [(l_pool, Cl I s9.1)]) (fun w8 => [(l_pool, Cl I w8)]) hz hp (t_eqI (d_callP (t := c__law_draw M) (l_pool, s5.2, (3 : Int)) G__law_draw q13 (Tak.perm Tak.z) (Tak.perm Tak.z).symm (a_cons (d_name Has.z) (a_cons d_int a_nil))) d_int) (fun s7 hk hp hz => ?_) (fun s7 hk hp hz => ?_) (fun s9 hz hp => ?_)
  · obtain ⟨q11, q12, hp⟩ := hp
    refine y_asg (R := I) (v := ((1 : Int) + ((s1.1 * (100 : Int)) / (order_.length : Int)))) (d_add d_int (d_div (d_mul (d_name (Has.s (Has.s (Has.s Has.z)))) d_int q11) (d_len (Rs := I) (d_name (Has.s (Has.s Has.z))) Bl.len) q12)) hz hp (fun percent_10 hz hp => ⟨_, (Put.s (Put.s (Put.s (Put.s (Put.s Put.z))))), ?_⟩)
    exact y_re (by walk_at "fg") (List.Perm.refl _) hz.h
  · exact y_re (by walk_at "fg") (List.Perm.refl _) hz.h
  · exact y_retS (S := I (min (100 : Int) (max (1 : Int) s9.2))) (d_min2 d_int (d_max2 d_int (d_intI (d_name (Has.s (Has.s (Has.s (Has.s (Has.s Has.z)))))) Bl.int) Bl.max) Bl.min) hz.h (List.Perm.refl _)

theorem g__law_rests {M : Mo} (Bl : Bx M) (P : Pr M "_law_rests" (stm 44) ["names", "marks", "periods"]) : Gd M 1 "_law_rests" ["names", "marks", "periods"] (c__law_rests M) := by
  refine P.gd sc__law_rests (by intro _; rfl) fun X B0 F0 D g hp hR hN => ?_
  obtain ⟨names_, marks_, periods_⟩ := g
  have hz : Go (fun B z => Rt B F0 D.rt ((Sq true (pr2 I I)) z) []) B0 (v__law_rests names_ marks_ periods_) := ⟨hR, fun _ _ _ e h => h.mono e⟩
  have hp : o__law_rests names_ marks_ periods_ := hp
  clear hR
  dsimp only [mkΓ, c__law_rests]
  unfold v__law_rests at hz
  unfold o__law_rests at hp
  refine y_own (Cv := Cl (pr2 I I)) (v := ([] : List (Int × Int))) (DN.c (n_lstQ (pr2 I I) ([] : List (Int × Int)) a_nil)) hz hp (fun rests_v_2 hz hp l_rests_v0 => ⟨_, (Put.s (Put.s (Put.s Put.z))), ?_⟩)
  refine y_own (Cv := Cl I) (v := [(0 : Int), (0 : Int), (0 : Int)]) (DN.c (n_lstQ I [(0 : Int), (0 : Int), (0 : Int)] (a_cons d_int (a_cons d_int (a_cons d_int a_nil))))) hz hp (fun seen_4 hz hp l_seen2 => ⟨_, (Put.s (Put.s (Put.s (Put.s Put.z)))), ?_⟩)
  obtain ⟨q20, hp⟩ := hp
  refine y_for (Rb := I) (fun s5 : (List (Int × Int)) × (List Int) => ([("names", some ((Sq true Tx) names_)), ("marks", some ((Sq true Tx) marks_)), ("periods", some ((Sq true I) periods_)), ("rests_v", some (At l_rests_v0)), ("seen", some (At l_seen2)), ("k", none), ("at", none)] : En)) (fun s5 : (List (Int × Int)) × (List Int) => [(l_seen2, Cl I s5.2), (l_rests_v0, Cl (pr2 I I) s5.1)]) (i_rng1L q20 (d_len (Rs := Tx) (d_name Has.z) Bl.len) Bl.range) (by walk_at "fg") (List.Perm.refl _) (by intro _; rfl) hz hp ?_ ?_
  · rintro ⟨Dn, Dr, Dk, Dc⟩ B1 hB1 hrt s5 y6 hp hz
    obtain rfl : Dr = _ := hrt
    refine ⟨_, _, (g_name (Put.s (Put.s (Put.s (Put.s (Put.s Put.z)))))), ?_⟩
    obtain ⟨q17, q18, hp⟩ := hp
    refine y_asg (R := I) (v := (sidv ("abc" : Str) (gt marks_ y6))) (d_sidx q18 d_str (d_at (Rs := Tx) q17 (d_name (Has.s Has.z)) (d_name (Has.s (Has.s (Has.s (Has.s (Has.s Has.z)))))))) hz hp (fun at_7 hz hp => ⟨_, (Put.s (Put.s (Put.s (Put.s (Put.s (Put.s Put.z)))))), ?_⟩)
    obtain ⟨q12, q13, q14, q15, q16, hp⟩ := hp
    refine y_app (R := (pr2 I I)) (v := ((gt periods_ at_7), ((gt s5.2 at_7) % (gt periods_ at_7)))) q12 hz hp (d_name (Has.s (Has.s (Has.s Has.z)))) (Hold.s Hold.z) (d_tup (a_cons (d_at (Rs := I) q13 (d_name (Has.s (Has.s Has.z))) (d_name (Has.s (Has.s (Has.s (Has.s (Has.s (Has.s Has.z)))))))) (a_cons (d_mod (d_atO (Rs := I) q14 (d_name (Has.s (Has.s (Has.s (Has.s Has.z))))) (d_name (Has.s (Has.s (Has.s (Has.s (Has.s (Has.s Has.z))))))) Hold.z) (d_at (Rs := I) q15 (d_name (Has.s (Has.s Has.z))) (d_name (Has.s (Has.s (Has.s (Has.s (Has.s (Has.s Has.z)))))))) q16) a_nil))) (fun rests_v_8 hz hp => ⟨_, (Swp.s Swp.z), ?_⟩)
    obtain ⟨q10, q11, hp⟩ := hp
    refine y_set (R := I) q11 hz hp (d_add (d_atO (Rs := I) q10 (d_name (Has.s (Has.s (Has.s (Has.s Has.z))))) (d_name (Has.s (Has.s (Has.s (Has.s (Has.s (Has.s Has.z))))))) Hold.z) d_int) (d_name (Has.s (Has.s (Has.s (Has.s Has.z))))) (d_name (Has.s (Has.s (Has.s (Has.s (Has.s (Has.s Has.z))))))) (fun seen_9 hz hp => ⟨_, Swp.z, ?_⟩)
    exact y_re (by walk_at "fg") (List.Perm.refl _) hz.h
  · intro s19 hz hp
    refine ds_freeze (Upg.s (Upg.s (Upg.s Upg.z))) (Tak.s Tak.z) ?_
    exact ds_ret0 (T := (Sq true (pr2 I I)) s19.1) hz.h (d_name (Has.s (Has.s (Has.s Has.z)))) rfl
end K24

set_option maxHeartbeats 2000000
/-! walks (printed by tr.py) -/
namespace K24
open PySem PySem.Spec PyProof.Rows L2 ZZ
open Evl (Ex)
local macro_rules | `(tactic| walk_at "fg") => `(tactic| (repeat (first | exact Fg.nil | (with_reducible refine Fg.keep rfl ?_) | (with_reducible refine Fg.drop ?_))))
local macro_rules | `(tactic| walk_at "nonb") => `(tactic| first | exact nonb_I | exact nonb_No | exact nonb_Bo | exact nonb_S | exact nonb_seq | exact nonb_tup)
local macro_rules | `(tactic| walk_at "istb") => `(tactic| first | exact istb_sc | exact istb_seq | exact istb_tup)
theorem g__law_plan {M : Mo} (Bl : Bx M) (P : Pr M "_law_plan" (stm 45) ["names", "rests_v", "days"]) : Gd M 1 "_law_plan" ["names", "rests_v", "days"] (c__law_plan M) := by
  refine P.gd sc__law_plan (by intro _; rfl) fun X B0 F0 D g hp hR hN => ?_
  obtain ⟨names_, rests_v_, days_⟩ := g
  have hz : Go (fun B z => Rt B F0 D.rt ((Sq false (Sq false Tx)) z) []) B0 (v__law_plan names_ rests_v_ days_) := ⟨hR, fun _ _ _ e h => h.mono e⟩
  have hp : o__law_plan names_ rests_v_ days_ := hp
  clear hR
  dsimp only [mkΓ, c__law_plan]
  unfold v__law_plan at hz
  unfold o__law_plan at hp
  refine y_own (Cv := Cl (Sq false Tx)) (v := ([] : List (List Str))) (DN.c (n_lstQ (Sq false Tx) ([] : List (List Str)) a_nil)) hz hp (fun plan_2 hz hp l_plan0 => ⟨_, (Put.s (Put.s (Put.s Put.z))), ?_⟩)
  obtain ⟨q12, hp⟩ := hp
  refine y_for (Rb := I) (fun s3 : (List (List Str)) => ([("names", some ((Sq true Tx) names_)), ("rests_v", some ((Sq true (pr2 I I)) rests_v_)), ("days", some (I days_)), ("plan", some (At l_plan0)), ("day", none), ("k", none)] : En)) (fun s3 : (List (List Str)) => [(l_plan0, Cl (Sq false Tx) s3)]) (i_rng1L q12 (d_name (Has.s (Has.s Has.z))) Bl.range) (by walk_at "fg") (List.Perm.refl _) (by intro _; rfl) hz hp ?_ ?_
  · rintro ⟨Dn, Dr, Dk, Dc⟩ B1 hB1 hrt s3 y4 hp hz
    obtain rfl : Dr = _ := hrt
    refine ⟨_, _, (g_name (Put.s (Put.s (Put.s (Put.s Put.z))))), ?_⟩
    obtain ⟨q7, q8, q9, q10, hp⟩ := hp
    refine y_app (R := (Sq false Tx)) (v := (((rng 0 (names_.length : Int)).filter fun y5 => (decide ((y4 % (gt rests_v_ y5).1) = (gt rests_v_ y5).2))).map fun y5 => (gt names_ y5))) q7 hz hp (d_name (Has.s (Has.s (Has.s Has.z)))) Hold.z (d_tuple (Rs := Tx) (DNc.frz (n_flt (R := Tx) (f := fun y5 => (gt names_ y5)) (pr := fun y5 => (decide ((y4 % (gt rests_v_ y5).1) = (gt rests_v_ y5).2))) (ok := fun y5 => (okx rests_v_ y5) ∧ (0 < (gt rests_v_ y5).1) ∧ (okx rests_v_ y5)) (ok2 := fun y5 => (okx names_ y5)) [("k", 5)] q10 q9 (i_rng1L q8 (d_len (Rs := Tx) (d_name Has.z) Bl.len) Bl.range) (blkOk_by (by show blkC nm__law_plan (defScope (stm 45)) _ _ = true; decide +kernel)) (by repeat constructor) (fun y5 h1 h2 => ⟨_, _, (g_name (Put.s (Put.s (Put.s (Put.s (Put.s Put.z)))))), by simp, (t_eqI (d_mod (d_name (Has.s (Has.s (Has.s (Has.s Has.z))))) (d_ixU (d_at (Rs := (pr2 I I)) h1.1 (d_name (Has.s Has.z)) (d_name (Has.s (Has.s (Has.s (Has.s (Has.s Has.z))))))) d_int rfl) h1.2.1) (d_ixU (d_at (Rs := (pr2 I I)) h1.2.2 (d_name (Has.s Has.z)) (d_name (Has.s (Has.s (Has.s (Has.s (Has.s Has.z))))))) d_int rfl)), fun hc => (d_at (Rs := Tx) (h2 hc) (d_name Has.z) (d_name (Has.s (Has.s (Has.s (Has.s (Has.s Has.z)))))))⟩))) Bl.tuple) (fun plan_6 hz hp => ⟨_, Swp.z, ?_⟩)
    exact y_re (by walk_at "fg") (List.Perm.refl _) hz.h
  · intro s11 hz hp
    refine ds_freeze (Upg.s (Upg.s (Upg.s Upg.z))) Tak.z ?_
    exact ds_ret0 (T := (Sq false (Sq false Tx)) s11) hz.h (d_tuple (Rs := (Sq false Tx)) (d_name (Has.s (Has.s (Has.s Has.z)))) Bl.tuple) rfl

theorem g__law_classes_hold {M : Mo} (Bl : Bx M) (P : Pr M "_law_classes_hold" (stm 46) ["items", "first", "second", "names", "marks"]) (G_classes : Gd M 2 "classes" ["items", "first", "second"] (c_classes M)) (G_same : Gsame M) : Gd M 6 "_law_classes_hold" ["items", "first", "second", "names", "marks"] (c__law_classes_hold M) := by
  refine P.gd sc__law_classes_hold (by intro _; rfl) fun X B0 F0 D g hp hR hN => ?_
  obtain ⟨items_, first_, second_, names_, marks_⟩ := g
  have hz : Go (fun B z => Rt B F0 D.rt (Bo z) []) B0 (v__law_classes_hold items_ first_ second_ names_ marks_) := ⟨hR, fun _ _ _ e h => h.mono e⟩
  have hp : o__law_classes_hold items_ first_ second_ names_ marks_ := hp
  clear hR
  dsimp only [mkΓ, c__law_classes_hold]
  unfold v__law_classes_hold at hz
  unfold o__law_classes_hold at hp
  obtain ⟨q9, q10, q11, hp⟩ := hp
  refine y_asg (R := (Sq false (pr2 Tx Tx))) (v := ((rng 0 (names_.length : Int)).map fun y1 => ((gt names_ y1), (gt marks_ y1)))) (d_tuple (Rs := (pr2 Tx Tx)) (DNc.frz (n_map (R := (pr2 Tx Tx)) (f := fun y1 => ((gt names_ y1), (gt marks_ y1))) (ok := fun y1 => (okx names_ y1) ∧ (okx marks_ y1)) [("k", 7)] q11 q10 (i_rng1L q9 (d_len (Rs := Tx) (d_name (Has.s (Has.s (Has.s Has.z)))) Bl.len) Bl.range) (blkOk_by (by show blkC nm__law_classes_hold (defScope (stm 46)) _ _ = true; decide +kernel)) (by repeat constructor) (fun y1 h1 => ⟨_, _, (g_name (Put.s (Put.s (Put.s (Put.s (Put.s (Put.s (Put.s Put.z)))))))), by simp, (d_tup (a_cons (d_at (Rs := Tx) h1.1 (d_name (Has.s (Has.s (Has.s Has.z)))) (d_name (Has.s (Has.s (Has.s (Has.s (Has.s (Has.s (Has.s Has.z))))))))) (a_cons (d_at (Rs := Tx) h1.2 (d_name (Has.s (Has.s (Has.s (Has.s Has.z))))) (d_name (Has.s (Has.s (Has.s (Has.s (Has.s (Has.s (Has.s Has.z))))))))) a_nil)))⟩))) Bl.tuple) hz hp (fun due_2 hz hp => ⟨_, (Put.s (Put.s (Put.s (Put.s (Put.s Put.z))))), ?_⟩)
  refine y_asg (R := (Sq true (pr2 Tx I))) (v := items_) (DNc.frz (DN.c (n_list (Rs := (pr2 Tx I)) (d_name Has.z) Bl.list))) hz hp (fun given_3 hz hp => ⟨_, (Put.s (Put.s (Put.s (Put.s (Put.s (Put.s Put.z)))))), ?_⟩)
  obtain ⟨q7, q8, hp⟩ := hp
  refine y_ite (t_notD (t_val (d_same (R := (Sq false (pr2 Tx Tx))) G_same q8 (d_callQ (t := c_classes M) (true, given_3, first_, second_) G_classes q7 (a_cons (d_name (Has.s (Has.s (Has.s (Has.s (Has.s (Has.s Has.z))))))) (a_cons (d_name (Has.s Has.z)) (a_cons (d_name (Has.s (Has.s Has.z))) a_nil)))) (d_name (Has.s (Has.s (Has.s (Has.s (Has.s Has.z))))))))) hz hp (fun hk hz hp => ?_) (fun hk hz hp => ?_)
  · exact ds_ret0 (T := Bo false) hz.h d_bool rfl
  · refine ds_next ?_
    obtain ⟨q6, hp⟩ := hp
    refine y_ite (t_neV (R := (Sq true (pr2 Tx I))) q6 (d_name (Has.s (Has.s (Has.s (Has.s (Has.s (Has.s Has.z))))))) (d_name Has.z)) hz hp (fun hk hz hp => ?_) (fun hk hz hp => ?_)
    · exact ds_ret0 (T := Bo false) hz.h d_bool rfl
    · refine ds_next ?_
      obtain ⟨q4, q5, hp⟩ := hp
      exact ds_ret0 (T := Bo true) hz.h (d_same (R := (Sq false (pr2 Tx Tx))) G_same q5 (d_callQ (t := c_classes M) (false, items_, first_, second_) G_classes q4 (a_cons (d_tuple (Rs := (pr2 Tx I)) (d_name Has.z) Bl.tuple) (a_cons (d_name (Has.s Has.z)) (a_cons (d_name (Has.s (Has.s Has.z))) a_nil)))) (d_name (Has.s (Has.s (Has.s (Has.s (Has.s Has.z))))))) rfl

theorem g__law_shares_hold {M : Mo} (Bl : Bx M) (P : Pr M "_law_shares_hold" (stm 47) ["many", "period"]) (G_fair_shares : Gd M 3 "fair_shares" ["pool", "wishes"] (c_fair_shares M)) (G_same : Gsame M) (G_level : Gd M 5 "level" ["pool", "wishes"] (c_level M)) (G_fair_steps : Gd M 3 "fair_steps" ["pool", "wishes"] (c_fair_steps M)) : Gd M 6 "_law_shares_hold" ["many", "period"] (c__law_shares_hold M) := by
  refine P.gd sc__law_shares_hold (by intro _; rfl) fun X B0 F0 D g hp hR hN => ?_
  obtain ⟨many_, period_⟩ := g
  have hz : Go (fun B z => Rt B F0 D.rt (Bo z) []) B0 (v__law_shares_hold many_ period_) := ⟨hR, fun _ _ _ e h => h.mono e⟩
  have hp : o__law_shares_hold many_ period_ := hp
  clear hR
  dsimp only [mkΓ, c__law_shares_hold]
  unfold v__law_shares_hold at hz
  unfold o__law_shares_hold at hp
  obtain ⟨q44, hp⟩ := hp
  refine y_asg (R := (Sq true I)) (v := (rep ([many_]) period_)) (DNc.frz (n_rep q44 (DNc.frz (DN.c (n_lstQ I [many_] (a_cons (d_name Has.z) a_nil)))) (d_name (Has.s Has.z)))) hz hp (fun wishes_1 hz hp => ⟨_, (Put.s (Put.s Put.z)), ?_⟩)
  obtain ⟨q41, q42, q43, hp⟩ := hp
  refine y_asg (R := (Sq false I)) (v := ((rng 0 period_).map fun y2 => ((many_ / period_) + (ZZ.b2i (decide (y2 < (many_ % period_))))))) (d_tuple (Rs := I) (DNc.frz (n_map (R := I) (f := fun y2 => ((many_ / period_) + (ZZ.b2i (decide (y2 < (many_ % period_)))))) (ok := fun y2 => (CDiv many_ period_) ∧ (0 < period_)) [("k", 7)] q43 q42 (i_rng1L q41 (d_name (Has.s Has.z)) Bl.range) (blkOk_by (by show blkC nm__law_shares_hold (defScope (stm 47)) _ _ = true; decide +kernel)) (by repeat constructor) (fun y2 h1 => ⟨_, _, (g_name (Put.s (Put.s (Put.s (Put.s (Put.s (Put.s (Put.s Put.z)))))))), by simp, (d_add (d_div (d_name Has.z) (d_name (Has.s Has.z)) h1.1) (d_b2i (d_lt (d_name (Has.s (Has.s (Has.s (Has.s (Has.s (Has.s (Has.s Has.z)))))))) (d_mod (d_name Has.z) (d_name (Has.s Has.z)) h1.2)) Bl.int))⟩))) Bl.tuple) hz hp (fun due_3 hz hp => ⟨_, (Put.s (Put.s (Put.s Put.z))), ?_⟩)
  obtain ⟨q39, q40, hp⟩ := hp
  refine y_ite (t_notD (t_val (d_same (R := (Sq false I)) G_same q40 (d_callQ (t := c_fair_shares M) (true, many_, wishes_1) G_fair_shares q39 (a_cons (d_name Has.z) (a_cons (DNc.frz (DN.c (n_list (Rs := I) (d_name (Has.s (Has.s Has.z))) Bl.list))) a_nil))) (d_name (Has.s (Has.s (Has.s Has.z))))))) hz hp (fun hk hz hp => ?_) (fun hk hz hp => ?_)
  · exact ds_ret0 (T := Bo false) hz.h d_bool rfl
  · refine ds_next ?_
    refine y_asg (R := (Oq I)) (v := none) d_none hz hp (fun low_4 hz hp => ⟨_, (Put.s (Put.s (Put.s (Put.s Put.z)))), ?_⟩)
    refine y_ifL (fun s6 : (Option Int) => ([("many", some (I many_)), ("period", some (I period_)), ("wishes", some ((Sq true I) wishes_1)), ("due", some ((Sq false I) due_3)), ("low", some ((Oq I) s6)), ("steps", none), ("pool", none), ("k", none)] : En)) (fun s6 => ([] : Ws)) (t_w (w_and (t_gt (d_name Has.z) d_int) (fun hc5 => (ZZ.v_and1 (t_gt (d_name (Has.s Has.z)) d_int))))) hz hp (fun hk hp hz => ?_) (fun hk hp hz => ?_) (fun s6 hz hp => ?_)
    · obtain ⟨q8, hp⟩ := hp
      refine y_asg (R := (Oq I)) (v := (some (many_ / period_))) (d_div (d_name Has.z) (d_name (Has.s Has.z)) q8) hz hp (fun low_7 hz hp => ⟨_, (Put.s (Put.s (Put.s (Put.s Put.z)))), ?_⟩)
      exact y_re (by walk_at "fg") (List.Perm.refl _) hz.h
    · exact y_re (by walk_at "fg") (List.Perm.refl _) hz.h
    · obtain ⟨q37, q38, hp⟩ := hp
      refine y_ite (t_notD (t_val (d_same (R := (Oq I)) G_same q38 (d_callQ (t := c_level M) (false, many_, wishes_1) G_level q37 (a_cons (d_name Has.z) (a_cons (d_tuple (Rs := I) (d_name (Has.s (Has.s Has.z))) Bl.tuple) a_nil))) (d_name (Has.s (Has.s (Has.s (Has.s Has.z)))))))) hz hp (fun hk hz hp => ?_) (fun hk hz hp => ?_)
      · exact ds_ret0 (T := Bo false) hz.h d_bool rfl
      · refine ds_next ?_
        obtain ⟨q33, q34, q35, q36, hp⟩ := hp
        refine y_asg (R := (Sq false (Oq I))) (v := (([none] : List (Option Int)) ++ ((rng 0 many_).map fun y10 => (some (y10 % period_))))) (d_catT (Rs := (Oq I)) q36 (d_tupL (R := (Oq I)) (xs := [none]) (a_cons d_none a_nil)) (d_tuple (Rs := (Oq I)) (DNc.frz (n_map (R := (Oq I)) (f := fun y10 => (some (y10 % period_))) (ok := fun y10 => (0 < period_)) [("k", 7)] q35 q34 (i_rng1L q33 (d_name Has.z) Bl.range) (blkOk_by (by show blkC nm__law_shares_hold (defScope (stm 47)) _ _ = true; decide +kernel)) (by repeat constructor) (fun y10 h1 => ⟨_, _, (g_name (Put.s (Put.s (Put.s (Put.s (Put.s (Put.s (Put.s Put.z)))))))), by simp, (d_mod (d_name (Has.s (Has.s (Has.s (Has.s (Has.s (Has.s (Has.s Has.z)))))))) (d_name (Has.s Has.z)) h1)⟩))) Bl.tuple)) hz hp (fun steps_11 hz hp => ⟨_, (Put.s (Put.s (Put.s (Put.s (Put.s Put.z))))), ?_⟩)
        obtain ⟨q31, q32, hp⟩ := hp
        refine y_ite (t_notD (t_val (d_same (R := (Sq false (Oq I))) G_same q32 (d_callQ (t := c_fair_steps M) (true, many_, wishes_1) G_fair_steps q31 (a_cons (d_name Has.z) (a_cons (DNc.frz (DN.c (n_list (Rs := I) (d_name (Has.s (Has.s Has.z))) Bl.list))) a_nil))) (d_name (Has.s (Has.s (Has.s (Has.s (Has.s Has.z))))))))) hz hp (fun hk hz hp => ?_) (fun hk hz hp => ?_)
        · exact ds_ret0 (T := Bo false) hz.h d_bool rfl
        · refine ds_next ?_
          obtain ⟨q30, hp⟩ := hp
          refine y_asg (R := I) (v := ((many_ * period_) + (1 : Int))) (d_add (d_mul (d_name Has.z) (d_name (Has.s Has.z)) q30) d_int) hz hp (fun pool_12 hz hp => ⟨_, (Put.s (Put.s (Put.s (Put.s (Put.s (Put.s Put.z)))))), ?_⟩)
          refine y_ite (t_gt (d_name (Has.s (Has.s (Has.s (Has.s (Has.s (Has.s Has.z))))))) d_int) hz hp (fun hk hz hp => ?_) (fun hk hz hp => ?_)
          · exact ds_ret0 (T := Bo true) hz.h d_bool rfl
          · refine ds_next ?_
            obtain ⟨q28, q29, hp⟩ := hp
            refine y_ite (t_notD (t_val (d_same (R := (Sq false I)) G_same q29 (d_callQ (t := c_fair_shares M) (true, pool_12, wishes_1) G_fair_shares q28 (a_cons (d_name (Has.s (Has.s (Has.s (Has.s (Has.s (Has.s Has.z))))))) (a_cons (DNc.frz (DN.c (n_list (Rs := I) (d_name (Has.s (Has.s Has.z))) Bl.list))) a_nil))) (d_tuple (Rs := I) (d_name (Has.s (Has.s Has.z))) Bl.tuple)))) hz hp (fun hk hz hp => ?_) (fun hk hz hp => ?_)
            · exact ds_ret0 (T := Bo false) hz.h d_bool rfl
            · refine ds_next ?_
              obtain ⟨q26, q27, hp⟩ := hp
              refine y_ite (t_notD (t_val (d_same (R := (Oq I)) G_same q27 (d_callQ (t := c_level M) (true, pool_12, wishes_1) G_level q26 (a_cons (d_name (Has.s (Has.s (Has.s (Has.s (Has.s (Has.s Has.z))))))) (a_cons (DNc.frz (DN.c (n_list (Rs := I) (d_name (Has.s (Has.s Has.z))) Bl.list))) a_nil))) d_none))) hz hp (fun hk hz hp => ?_) (fun hk hz hp => ?_)
              · exact ds_ret0 (T := Bo false) hz.h d_bool rfl
              · refine ds_next ?_
                obtain ⟨q20, q21, q22, q23, q24, q25, hp⟩ := hp
                refine y_asg (R := (Sq false (Oq I))) (v := ((([none] : List (Option Int)) ++ ((rng 0 (many_ * period_)).map fun y16 => (some (y16 % period_)))) ++ ([none] : List (Option Int)))) (d_catT (Rs := (Oq I)) q25 (d_catT (Rs := (Oq I)) q24 (d_tupL (R := (Oq I)) (xs := [none]) (a_cons d_none a_nil)) (d_tuple (Rs := (Oq I)) (DNc.frz (n_map (R := (Oq I)) (f := fun y16 => (some (y16 % period_))) (ok := fun y16 => (0 < period_)) [("k", 7)] q23 q22 (i_rng1L q21 (d_mul (d_name Has.z) (d_name (Has.s Has.z)) q20) Bl.range) (blkOk_by (by show blkC nm__law_shares_hold (defScope (stm 47)) _ _ = true; decide +kernel)) (by repeat constructor) (fun y16 h1 => ⟨_, _, (g_name (Put.s (Put.s (Put.s (Put.s (Put.s (Put.s (Put.s Put.z)))))))), by simp, (d_mod (d_name (Has.s (Has.s (Has.s (Has.s (Has.s (Has.s (Has.s Has.z)))))))) (d_name (Has.s Has.z)) h1)⟩))) Bl.tuple)) (d_tupL (R := (Oq I)) (xs := [none]) (a_cons d_none a_nil))) hz hp (fun steps_17 hz hp => ⟨_, (Put.s (Put.s (Put.s (Put.s (Put.s Put.z))))), ?_⟩)
                obtain ⟨q18, q19, hp⟩ := hp
                exact ds_ret0 (T := Bo true) hz.h (d_same (R := (Sq false (Oq I))) G_same q19 (d_callQ (t := c_fair_steps M) (false, pool_12, wishes_1) G_fair_steps q18 (a_cons (d_name (Has.s (Has.s (Has.s (Has.s (Has.s (Has.s Has.z))))))) (a_cons (d_tuple (Rs := I) (d_name (Has.s (Has.s Has.z))) Bl.tuple) a_nil))) (d_name (Has.s (Has.s (Has.s (Has.s (Has.s Has.z))))))) rfl

theorem g__law_wholes_hold {M : Mo} (Bl : Bx M) (P : Pr M "_law_wholes_hold" (stm 48) ["names", "values", "order", "many", "each", "spare"]) (G_best_value : Gd M 15 "best_value" ["stock", "orders", "values"] (c_best_value M)) (G_same : Gsame M) (G_most_whole : Gd M 15 "most_whole" ["stock", "orders"] (c_most_whole M)) (G_fits : Gd M 3 "fits" ["stock", "orders", "chosen"] (c_fits M)) (G_blocking : Gd M 3 "blocking" ["stock", "orders", "chosen", "at"] (c_blocking M)) : Gd M 16 "_law_wholes_hold" ["names", "values", "order", "many", "each", "spare"] (c__law_wholes_hold M) := by
  refine P.gd sc__law_wholes_hold (by intro _; rfl) fun X B0 F0 D g hp hR hN => ?_
  obtain ⟨names_, values_, order_, many_, each_, spare_⟩ := g
  have hz : Go (fun B z => Rt B F0 D.rt (Bo z) []) B0 (v__law_wholes_hold names_ values_ order_ many_ each_ spare_) := ⟨hR, fun _ _ _ e h => h.mono e⟩
  have hp : o__law_wholes_hold names_ values_ order_ many_ each_ spare_ := hp
  clear hR
  dsimp only [mkΓ, c__law_wholes_hold]
  unfold v__law_wholes_hold at hz
  unfold o__law_wholes_hold at hp
  obtain ⟨q48, q49, hp⟩ := hp
  refine y_map (R := (pr2 (pr2 Tx I) (pr2 Tx I))) (f := fun y1 => ((y1, (1 : Int)), (("z" : Str), each_))) (ok := fun y1 => True) [("name", 12)] q49 q48 hz hp (i_seqL (Rs := Tx) (d_name Has.z)) (blkOk_by (by show blkC nm__law_wholes_hold (defScope (stm 48)) _ _ = true; decide +kernel)) (by repeat constructor) (fun y1 h1 => ⟨_, _, (g_name (Put.s (Put.s (Put.s (Put.s (Put.s (Put.s (Put.s (Put.s (Put.s (Put.s (Put.s (Put.s Put.z))))))))))))), by simp, (d_tup (a_cons (d_tup (a_cons (d_name (Has.s (Has.s (Has.s (Has.s (Has.s (Has.s (Has.s (Has.s (Has.s (Has.s (Has.s (Has.s Has.z))))))))))))) (a_cons d_int a_nil))) (a_cons (d_tup (a_cons d_str (a_cons (d_name (Has.s (Has.s (Has.s (Has.s Has.z))))) a_nil))) a_nil)))⟩) (Put.s (Put.s (Put.s (Put.s (Put.s (Put.s Put.z)))))) (fun orders_2 hz hp l_orders2 => ⟨_, (Put.s (Put.s (Put.s (Put.s (Put.s (Put.s Put.z)))))), ?_⟩)
  refine ds_freeze (Upg.s (Upg.s (Upg.s (Upg.s (Upg.s (Upg.s Upg.z)))))) Tak.z ?_
  obtain ⟨q44, q45, q46, q47, hp⟩ := hp
  refine y_asg (R := (Sq true (pr2 Tx I))) (v := ((names_.map fun y5 => (y5, (1 : Int))) ++ [(("z" : Str), ((many_ * each_) + spare_))])) (DNc.frz (DN.c (n_cat (Rs := (pr2 Tx I)) (DNc.frz (n_map (R := (pr2 Tx I)) (f := fun y5 => (y5, (1 : Int))) (ok := fun y5 => True) [("name", 12)] q45 q44 (i_seqL (Rs := Tx) (d_name Has.z)) (blkOk_by (by show blkC nm__law_wholes_hold (defScope (stm 48)) _ _ = true; decide +kernel)) (by repeat constructor) (fun y5 h1 => ⟨_, _, (g_name (Put.s (Put.s (Put.s (Put.s (Put.s (Put.s (Put.s (Put.s (Put.s (Put.s (Put.s (Put.s Put.z))))))))))))), by simp, (d_tup (a_cons (d_name (Has.s (Has.s (Has.s (Has.s (Has.s (Has.s (Has.s (Has.s (Has.s (Has.s (Has.s (Has.s Has.z))))))))))))) (a_cons d_int a_nil)))⟩))) (DNc.frz (DN.c (n_lstQ (pr2 Tx I) [(("z" : Str), ((many_ * each_) + spare_))] (a_cons (d_tup (a_cons d_str (a_cons (d_add (d_mul (d_name (Has.s (Has.s (Has.s Has.z)))) (d_name (Has.s (Has.s (Has.s (Has.s Has.z))))) q46) (d_name (Has.s (Has.s (Has.s (Has.s (Has.s Has.z))))))) a_nil))) a_nil)))) q47))) hz hp (fun stock_6 hz hp => ⟨_, (Put.s (Put.s (Put.s (Put.s (Put.s (Put.s (Put.s Put.z))))))), ?_⟩)
  obtain ⟨q40, q41, q42, q43, hp⟩ := hp
  refine y_asg (R := (Sq true I)) (v := (srt leI ((cut order_ none (some many_)).map fun y8 => y8))) (DNc.frz (n_sort_I (DNc.frz (n_map (R := I) (f := fun y8 => y8) (ok := fun y8 => True) [("k", 13)] q43 q42 (i_seqL (Rs := I) (d_sl (d_name (Has.s (Has.s Has.z))) o_none (o_some (d_name (Has.s (Has.s (Has.s Has.z))))))) (blkOk_by (by show blkC nm__law_wholes_hold (defScope (stm 48)) _ _ = true; decide +kernel)) (by repeat constructor) (fun y8 h1 => ⟨_, _, (g_name (Put.s (Put.s (Put.s (Put.s (Put.s (Put.s (Put.s (Put.s (Put.s (Put.s (Put.s (Put.s (Put.s Put.z)))))))))))))), by simp, (d_intI (d_name (Has.s (Has.s (Has.s (Has.s (Has.s (Has.s (Has.s (Has.s (Has.s (Has.s (Has.s (Has.s (Has.s Has.z)))))))))))))) Bl.int)⟩))) Bl.sorted)) hz hp (fun chosen_9 hz hp => ⟨_, (Put.s (Put.s (Put.s (Put.s (Put.s (Put.s (Put.s (Put.s Put.z)))))))), ?_⟩)
  refine y_asg (R := (pr3 (Sq true (pr2 Tx I)) (Sq true (pr2 (pr2 Tx I) (pr2 Tx I))) (Sq true I))) (v := (stock_6, orders_2, values_)) (d_tup (a_cons (DNc.frz (DN.c (n_list (Rs := (pr2 Tx I)) (d_name (Has.s (Has.s (Has.s (Has.s (Has.s (Has.s (Has.s Has.z)))))))) Bl.list))) (a_cons (DNc.frz (DN.c (n_list (Rs := (pr2 (pr2 Tx I) (pr2 Tx I))) (d_name (Has.s (Has.s (Has.s (Has.s (Has.s (Has.s Has.z))))))) Bl.list))) (a_cons (DNc.frz (DN.c (n_list (Rs := I) (d_name (Has.s Has.z)) Bl.list))) a_nil)))) hz hp (fun given_10 hz hp => ⟨_, (Put.s (Put.s (Put.s (Put.s (Put.s (Put.s (Put.s (Put.s (Put.s Put.z))))))))), ?_⟩)
  obtain ⟨q38, q39, hp⟩ := hp
  refine y_ite (t_notD (t_val (d_same (R := (Sq false I)) G_same q39 (d_callQ (t := c_best_value M) (given_10.1, given_10.2.1, given_10.2.2) G_best_value q38 (a_cons (d_ixU (d_name (Has.s (Has.s (Has.s (Has.s (Has.s (Has.s (Has.s (Has.s (Has.s Has.z)))))))))) d_int rfl) (a_cons (d_ixU (d_name (Has.s (Has.s (Has.s (Has.s (Has.s (Has.s (Has.s (Has.s (Has.s Has.z)))))))))) d_int rfl) (a_cons (d_ixU (d_name (Has.s (Has.s (Has.s (Has.s (Has.s (Has.s (Has.s (Has.s (Has.s Has.z)))))))))) d_int rfl) a_nil)))) (d_tuple (Rs := I) (d_name (Has.s (Has.s (Has.s (Has.s (Has.s (Has.s (Has.s (Has.s Has.z))))))))) Bl.tuple)))) hz hp (fun hk hz hp => ?_) (fun hk hz hp => ?_)
  · exact ds_ret0 (T := Bo false) hz.h d_bool rfl
  · refine ds_next ?_
    obtain ⟨q36, q37, hp⟩ := hp
    refine y_ite (t_w (w_or (t_neV (R := (Sq true (pr2 Tx I))) q36 (d_ixU (d_name (Has.s (Has.s (Has.s (Has.s (Has.s (Has.s (Has.s (Has.s (Has.s Has.z)))))))))) d_int rfl) (d_name (Has.s (Has.s (Has.s (Has.s (Has.s (Has.s (Has.s Has.z))))))))) (fun hc11 => (w_or (t_neV (R := (Sq true (pr2 (pr2 Tx I) (pr2 Tx I)))) (q37 hc11).1 (d_ixU (d_name (Has.s (Has.s (Has.s (Has.s (Has.s (Has.s (Has.s (Has.s (Has.s Has.z)))))))))) d_int rfl) (d_name (Has.s (Has.s (Has.s (Has.s (Has.s (Has.s Has.z)))))))) (fun hc12 => (ZZ.v_or1 (t_neV (R := (Sq true I)) ((q37 hc11).2 hc12) (d_ixU (d_name (Has.s (Has.s (Has.s (Has.s (Has.s (Has.s (Has.s (Has.s (Has.s Has.z)))))))))) d_int rfl) (d_name (Has.s Has.z))))))))) hz hp (fun hk hz hp => ?_) (fun hk hz hp => ?_)
    · exact ds_ret0 (T := Bo false) hz.h d_bool rfl
    · refine ds_next ?_
      obtain ⟨q31, q32, q33, q34, q35, hp⟩ := hp
      refine y_ite (t_notD (t_val (d_same (R := (Sq false I)) G_same q35 (d_callQ (t := c_most_whole M) (stock_6, orders_2) G_most_whole q31 (a_cons (DNc.frz (DN.c (n_list (Rs := (pr2 Tx I)) (d_name (Has.s (Has.s (Has.s (Has.s (Has.s (Has.s (Has.s Has.z)))))))) Bl.list))) (a_cons (d_tuple (Rs := (pr2 (pr2 Tx I) (pr2 Tx I))) (d_name (Has.s (Has.s (Has.s (Has.s (Has.s (Has.s Has.z))))))) Bl.tuple) a_nil))) (d_tuple (Rs := I) (DNc.frz (n_map (R := I) (f := fun y13 => y13) (ok := fun y13 => True) [("k", 13)] q34 q33 (i_rng1L q32 (d_name (Has.s (Has.s (Has.s Has.z)))) Bl.range) (blkOk_by (by show blkC nm__law_wholes_hold (defScope (stm 48)) _ _ = true; decide +kernel)) (by repeat constructor) (fun y13 h1 => ⟨_, _, (g_name (Put.s (Put.s (Put.s (Put.s (Put.s (Put.s (Put.s (Put.s (Put.s (Put.s (Put.s (Put.s (Put.s Put.z)))))))))))))), by simp, (d_name (Has.s (Has.s (Has.s (Has.s (Has.s (Has.s (Has.s (Has.s (Has.s (Has.s (Has.s (Has.s (Has.s Has.z))))))))))))))⟩))) Bl.tuple)))) hz hp (fun hk hz hp => ?_) (fun hk hz hp => ?_)
      · exact ds_ret0 (T := Bo false) hz.h d_bool rfl
      · refine ds_next ?_
        obtain ⟨q29, q30, hp⟩ := hp
        refine y_ite (t_notD (t_val (d_same (R := Bo) G_same q30 (d_callQ (t := c_fits M) (true, stock_6, orders_2, chosen_9) G_fits q29 (a_cons (DNc.frz (DN.c (n_list (Rs := (pr2 Tx I)) (d_name (Has.s (Has.s (Has.s (Has.s (Has.s (Has.s (Has.s Has.z)))))))) Bl.list))) (a_cons (DNc.frz (DN.c (n_list (Rs := (pr2 (pr2 Tx I) (pr2 Tx I))) (d_name (Has.s (Has.s (Has.s (Has.s (Has.s (Has.s Has.z))))))) Bl.list))) (a_cons (d_tuple (Rs := I) (d_name (Has.s (Has.s (Has.s (Has.s (Has.s (Has.s (Has.s (Has.s Has.z))))))))) Bl.tuple) a_nil)))) d_bool))) hz hp (fun hk hz hp => ?_) (fun hk hz hp => ?_)
        · exact ds_ret0 (T := Bo false) hz.h d_bool rfl
        · refine ds_next ?_
          refine y_ite (t_eqI (d_name (Has.s (Has.s (Has.s Has.z)))) (d_len (Rs := Tx) (d_name Has.z) Bl.len)) hz hp (fun hk hz hp => ?_) (fun hk hz hp => ?_)
          · exact ds_ret0 (T := Bo true) hz.h d_bool rfl
          · refine ds_next ?_
            obtain ⟨q28, hp⟩ := hp
            refine y_asg (R := I) (v := (gt order_ many_)) (d_at (Rs := I) q28 (d_name (Has.s (Has.s Has.z))) (d_name (Has.s (Has.s (Has.s Has.z))))) hz hp (fun at_14 hz hp => ⟨_, (Put.s (Put.s (Put.s (Put.s (Put.s (Put.s (Put.s (Put.s (Put.s (Put.s Put.z)))))))))), ?_⟩)
            obtain ⟨q26, q27, hp⟩ := hp
            refine y_ite (t_notD (t_val (d_same (R := (Sq false Tx)) G_same q27 (d_callQ (t := c_blocking M) (stock_6, orders_2, chosen_9, at_14) G_blocking q26 (a_cons (d_tuple (Rs := (pr2 Tx I)) (d_name (Has.s (Has.s (Has.s (Has.s (Has.s (Has.s (Has.s Has.z)))))))) Bl.tuple) (a_cons (DNc.frz (DN.c (n_list (Rs := (pr2 (pr2 Tx I) (pr2 Tx I))) (d_name (Has.s (Has.s (Has.s (Has.s (Has.s (Has.s Has.z))))))) Bl.list))) (a_cons (d_tuple (Rs := I) (d_name (Has.s (Has.s (Has.s (Has.s (Has.s (Has.s (Has.s (Has.s Has.z))))))))) Bl.tuple) (a_cons (d_name (Has.s (Has.s (Has.s (Has.s (Has.s (Has.s (Has.s (Has.s (Has.s (Has.s Has.z))))))))))) a_nil))))) (d_tupL (R := Tx) (xs := [("z" : Str)]) (a_cons d_str a_nil))))) hz hp (fun hk hz hp => ?_) (fun hk hz hp => ?_)
            · exact ds_ret0 (T := Bo false) hz.h d_bool rfl
            · refine ds_next ?_
              obtain ⟨q20, q21, q22, q23, q24, q25, hp⟩ := hp
              refine y_asg (R := (Sq true I)) (v := (srt leI ((chosen_9 ++ [at_14]).map fun y16 => y16))) (DNc.frz (n_sort_I (DNc.frz (n_map (R := I) (f := fun y16 => y16) (ok := fun y16 => True) [("k", 13)] q25 q24 (i_seqL (Rs := I) (DNc.frz (DN.c (n_cat (Rs := I) (d_name (Has.s (Has.s (Has.s (Has.s (Has.s (Has.s (Has.s (Has.s Has.z))))))))) (DNc.frz (DN.c (n_lstQ I [at_14] (a_cons (d_name (Has.s (Has.s (Has.s (Has.s (Has.s (Has.s (Has.s (Has.s (Has.s (Has.s Has.z))))))))))) a_nil)))) q23)))) (blkOk_by (by show blkC nm__law_wholes_hold (defScope (stm 48)) _ _ = true; decide +kernel)) (by repeat constructor) (fun y16 h1 => ⟨_, _, (g_name (Put.s (Put.s (Put.s (Put.s (Put.s (Put.s (Put.s (Put.s (Put.s (Put.s (Put.s (Put.s (Put.s Put.z)))))))))))))), by simp, (d_intI (d_name (Has.s (Has.s (Has.s (Has.s (Has.s (Has.s (Has.s (Has.s (Has.s (Has.s (Has.s (Has.s (Has.s Has.z)))))))))))))) Bl.int)⟩))) Bl.sorted)) hz hp (fun more_17 hz hp => ⟨_, (Put.s (Put.s (Put.s (Put.s (Put.s (Put.s (Put.s (Put.s (Put.s (Put.s (Put.s Put.z))))))))))), ?_⟩)
              obtain ⟨q18, q19, hp⟩ := hp
              exact ds_ret0 (T := Bo true) hz.h (d_same (R := Bo) G_same q19 (d_callQ (t := c_fits M) (true, stock_6, orders_2, more_17) G_fits q18 (a_cons (DNc.frz (DN.c (n_list (Rs := (pr2 Tx I)) (d_name (Has.s (Has.s (Has.s (Has.s (Has.s (Has.s (Has.s Has.z)))))))) Bl.list))) (a_cons (DNc.frz (DN.c (n_list (Rs := (pr2 (pr2 Tx I) (pr2 Tx I))) (d_name (Has.s (Has.s (Has.s (Has.s (Has.s (Has.s Has.z))))))) Bl.list))) (a_cons (d_tuple (Rs := I) (d_name (Has.s (Has.s (Has.s (Has.s (Has.s (Has.s (Has.s (Has.s (Has.s (Has.s (Has.s Has.z)))))))))))) Bl.tuple) a_nil)))) d_bool) rfl

theorem g__law_next_holds {M : Mo} {C_NoKey N_InvalidValue : Addr} (Bl : Bx M) (P : Pr M "_law_next_holds" (stm 49) ["items", "percents", "periods", "names", "rests_v", "at", "day"]) (G_next_count : Gd M 4 "next_count" ["items", "first", "second", "periods", "item", "day"] (c_next_count M)) (G_same : Gsame M) (G_sameH : GsameH M) (Gx_next_count : Gx M 4 "next_count" ["items", "first", "second", "periods", "item", "day"] (cx_next_count M) C_NoKey "key") (XD_NoKey : XD M.K C_NoKey N_InvalidValue "key") (m_NoKey : M.mg "NoKey" = some (.ref C_NoKey)) (mN_InvalidValue : M.mg "InvalidValue" = some (.ref N_InvalidValue)) (hex_NoKey : PySem.W.exmOne M.K (.ref C_NoKey) (.ref C_NoKey) = some true) : Gd M 6 "_law_next_holds" ["items", "percents", "periods", "names", "rests_v", "at", "day"] (c__law_next_holds M) := by
  refine P.gdY sc__law_next_holds (by intro _; rfl) fun X B0 F0 D g hst hfr hp hR hN => ?_
  obtain ⟨items_, percents_, periods_, names_, rests_v_, at_, day_⟩ := g
  have hz : Go (fun B z => Rt B F0 D.rt (Bo z) []) B0 (v__law_next_holds items_ percents_ periods_ names_ rests_v_ at_ day_) := ⟨hR, fun _ _ _ e h => h.mono e⟩
  have hp : o__law_next_holds items_ percents_ periods_ names_ rests_v_ at_ day_ := hp
  clear hR
  dsimp only [mkΓ, c__law_next_holds]
  unfold v__law_next_holds at hz
  unfold o__law_next_holds at hp
  obtain ⟨q11, q12, q13, hp⟩ := hp
  refine y_asg (R := I) (v := (day_ + (((gt rests_v_ at_).2 - day_) % (gt rests_v_ at_).1))) (d_add (d_name (Has.s (Has.s (Has.s (Has.s (Has.s (Has.s Has.z))))))) (d_mod (d_intI (d_sub (d_ixU (d_at (Rs := (pr2 I I)) q11 (d_name (Has.s (Has.s (Has.s (Has.s Has.z))))) (d_name (Has.s (Has.s (Has.s (Has.s (Has.s Has.z))))))) d_int rfl) (d_name (Has.s (Has.s (Has.s (Has.s (Has.s (Has.s Has.z)))))))) Bl.int) (d_ixU (d_at (Rs := (pr2 I I)) q12 (d_name (Has.s (Has.s (Has.s (Has.s Has.z))))) (d_name (Has.s (Has.s (Has.s (Has.s (Has.s Has.z))))))) d_int rfl) q13)) hz hp (fun due_1 hz hp => ⟨_, (Put.s (Put.s (Put.s (Put.s (Put.s (Put.s (Put.s Put.z))))))), ?_⟩)
  obtain ⟨q7, q8, q9, q10, hp⟩ := hp
  refine y_asg (R := I) (v := (v_next_count items_ (gt percents_ (0 : Int)) (gt percents_ (1 : Int)) periods_ (gt names_ at_) day_)) (d_callQ (t := c_next_count M) (items_, (gt percents_ (0 : Int)), (gt percents_ (1 : Int)), periods_, (gt names_ at_), day_) G_next_count q10 (a_cons (DNc.frz (DN.c (n_list (Rs := (pr2 Tx I)) (d_name Has.z) Bl.list))) (a_cons (d_at (Rs := I) q7 (d_name (Has.s Has.z)) d_int) (a_cons (d_at (Rs := I) q8 (d_name (Has.s Has.z)) d_int) (a_cons (d_tuple (Rs := I) (d_name (Has.s (Has.s Has.z))) Bl.tuple) (a_cons (d_at (Rs := Tx) q9 (d_name (Has.s (Has.s (Has.s Has.z)))) (d_name (Has.s (Has.s (Has.s (Has.s (Has.s Has.z))))))) (a_cons (d_name (Has.s (Has.s (Has.s (Has.s (Has.s (Has.s Has.z))))))) a_nil))))))) hz hp (fun told_2 hz hp => ⟨_, (Put.s (Put.s (Put.s (Put.s (Put.s (Put.s (Put.s (Put.s Put.z)))))))), ?_⟩)
  obtain ⟨q6, hp⟩ := hp
  refine y_ite (t_notD (t_val (d_same (R := I) G_same q6 (d_name (Has.s (Has.s (Has.s (Has.s (Has.s (Has.s (Has.s (Has.s Has.z))))))))) (d_name (Has.s (Has.s (Has.s (Has.s (Has.s (Has.s (Has.s Has.z))))))))))) hz hp (fun hk hz hp => ?_) (fun hk hz hp => ?_)
  · exact ds_ret0 (T := Bo false) hz.h d_bool rfl
  · refine ds_next ?_
    obtain ⟨q3, q4, q5, hp⟩ := hp
    have hR := hz.h
    clear hz
    refine ds_try hst hfr (items_, (gt percents_ (0 : Int)), (gt percents_ (1 : Int)), periods_, ("zzz" : Str), day_) Gx_next_count (Nat.le_of_ble_eq_true rfl) (a_cons (DNc.frz (DN.c (n_list (Rs := (pr2 Tx I)) (d_name Has.z) Bl.list))) (a_cons (d_at (Rs := I) q3 (d_name (Has.s Has.z)) d_int) (a_cons (d_at (Rs := I) q4 (d_name (Has.s Has.z)) d_int) (a_cons (d_tuple (Rs := I) (d_name (Has.s (Has.s Has.z))) Bl.tuple) (a_cons d_str (a_cons (d_name (Has.s (Has.s (Has.s (Has.s (Has.s (Has.s Has.z))))))) a_nil)))))) rfl q5 m_NoKey hex_NoKey (i := 9) rfl rfl ?_
    intro a oe dd pn D9 σ v B H hrt hz hf fx e hE hO hna hd hv
    exact suite_sameT fx hz hf hE hO hd hv (by rw [fx.K]; exact XD_NoKey) (n := "e") (y := "InvalidValue") rfl (.inl rfl) mN_InvalidValue G_sameH (Nat.le_of_ble_eq_true rfl) (fun B9 H9 e1 O1 => by rw [hrt]; exact hR _ _ _ (e.trans e1) O1 rfl) Bl.isinstance rfl rfl rfl (by decide) (by decide) (by decide)

theorem g__law_period {M : Mo} (Bl : Bx M) (P : Pr M "_law_period" (stm 50) ["pool"]) (G__law_draw : Gd M 1 "_law_draw" ["pool", "many"] (c__law_draw M)) : Gd M 2 "_law_period" ["pool"] (c__law_period M) := by
  refine P.gd sc__law_period (by intro _; rfl) fun X B0 F0 D g hp hR hN => ?_
  obtain ⟨l_pool, pool_⟩ := g
  have hz : Go (fun B z => Rt B F0 D.rt (I z.1) [(l_pool, Cl I z.2)]) B0 (v__law_period pool_) := ⟨hR, fun _ _ _ e h => h.mono e⟩
  have hp : o__law_period pool_ := hp
  clear hR
  dsimp only [mkΓ, c__law_period]
  unfold v__law_period at hz
  unfold o__law_period at hp
  obtain ⟨q11, hp⟩ := hp
  refine y_asgS (R := I) (d := (((1 : Int) + (v__law_draw pool_ (4 : Int)).1), (v__law_draw pool_ (4 : Int)).2)) (fun w2 => [(l_pool, Cl I w2)]) hz hp (d_add d_int (d_callP (t := c__law_draw M) (l_pool, pool_, (4 : Int)) G__law_draw q11 (Tak.perm Tak.z) (Tak.perm Tak.z).symm (a_cons (d_name Has.z) (a_cons d_int a_nil)))) (fun s1 hz hp => ⟨_, (Put.s Put.z), ?_⟩)
  obtain ⟨q10, hp⟩ := hp
  refine y_asgS (R := I) (d := (((1 : Int) + (v__law_draw s1.2 (20 : Int)).1), (v__law_draw s1.2 (20 : Int)).2)) (fun w4 => [(l_pool, Cl I w4)]) hz hp (d_add d_int (d_callP (t := c__law_draw M) (l_pool, s1.2, (20 : Int)) G__law_draw q10 (Tak.perm Tak.z) (Tak.perm Tak.z).symm (a_cons (d_name Has.z) (a_cons d_int a_nil)))) (fun s3 hz hp => ⟨_, (Put.s (Put.s Put.z)), ?_⟩)
  obtain ⟨q9, hp⟩ := hp
  refine y_asgS (R := I) (d := (((1 : Int) + (v__law_draw s3.2 (30 : Int)).1), (v__law_draw s3.2 (30 : Int)).2)) (fun w6 => [(l_pool, Cl I w6)]) hz hp (d_add d_int (d_callP (t := c__law_draw M) (l_pool, s3.2, (30 : Int)) G__law_draw q9 (Tak.perm Tak.z) (Tak.perm Tak.z).symm (a_cons (d_name Has.z) (a_cons d_int a_nil)))) (fun s5 hz hp => ⟨_, (Put.s (Put.s (Put.s Put.z))), ?_⟩)
  obtain ⟨q7, q8, hp⟩ := hp
  exact y_retS (S := I (gt ([s1.1, s3.1, s5.1]) ((v__law_draw s5.2 (3 : Int)).1))) (d_at (Rs := I) q8 (DNc.frz (DN.c (n_lstQ I [s1.1, s3.1, s5.1] (a_cons (d_name (Has.s Has.z)) (a_cons (d_name (Has.s (Has.s Has.z))) (a_cons (d_name (Has.s (Has.s (Has.s Has.z)))) a_nil)))))) (d_callP (t := c__law_draw M) (l_pool, s5.2, (3 : Int)) G__law_draw q7 (Tak.perm Tak.z) (Tak.perm Tak.z).symm (a_cons (d_name Has.z) (a_cons d_int a_nil)))) hz.h (List.Perm.refl _)
end K24

set_option maxHeartbeats 2000000
/-! walks (printed by tr.py) -/
namespace K24
open PySem PySem.Spec PyProof.Rows L2 ZZ
open Evl (Ex)
local macro_rules | `(tactic| walk_at "fg") => `(tactic| (repeat (first | exact Fg.nil | (with_reducible refine Fg.keep rfl ?_) | (with_reducible refine Fg.drop ?_))))
local macro_rules | `(tactic| walk_at "nonb") => `(tactic| first | exact nonb_I | exact nonb_No | exact nonb_Bo | exact nonb_S | exact nonb_seq | exact nonb_tup)
local macro_rules | `(tactic| walk_at "istb") => `(tactic| first | exact istb_sc | exact istb_seq | exact istb_tup)
theorem g__law_days {M : Mo} (Bl : Bx M) (P : Pr M "_law_days" (stm 51) ["pool", "many"]) (G__law_draw : Gd M 1 "_law_draw" ["pool", "many"] (c__law_draw M)) : Gd M 2 "_law_days" ["pool", "many"] (c__law_days M) := by
  refine P.gd sc__law_days (by intro _; rfl) fun X B0 F0 D g hp hR hN => ?_
  obtain ⟨l_pool, pool_, many_⟩ := g
  have hz : Go (fun B z => Rt B F0 D.rt (I z.1) [(l_pool, Cl I z.2)]) B0 (v__law_days pool_ many_) := ⟨hR, fun _ _ _ e h => h.mono e⟩
  have hp : o__law_days pool_ many_ := hp
  clear hR
  dsimp only [mkΓ, c__law_days]
  unfold v__law_days at hz
  unfold o__law_days at hp
  obtain ⟨q7, hp⟩ := hp
  refine y_asgS (R := I) (d := (((1 : Int) + (v__law_draw pool_ (12 : Int)).1), (v__law_draw pool_ (12 : Int)).2)) (fun w2 => [(l_pool, Cl I w2)]) hz hp (d_add d_int (d_callP (t := c__law_draw M) (l_pool, pool_, (12 : Int)) G__law_draw q7 (Tak.perm Tak.z) (Tak.perm Tak.z).symm (a_cons (d_name Has.z) (a_cons d_int a_nil)))) (fun s1 hz hp => ⟨_, (Put.s (Put.s Put.z)), ?_⟩)
  obtain ⟨q6, hp⟩ := hp
  refine y_iteS (d := (((decide ((v__law_draw s1.2 (5 : Int)).1 = (0 : Int))) && (decide (many_ < (7 : Int)))), (v__law_draw s1.2 (5 : Int)).2)) (fun w5 => [(l_pool, Cl I w5)]) hz hp (t_w (w_and (t_eqI (d_callP (t := c__law_draw M) (l_pool, s1.2, (5 : Int)) G__law_draw q6 (Tak.perm Tak.z) (Tak.perm Tak.z).symm (a_cons (d_name Has.z) (a_cons d_int a_nil))) d_int) (fun hc3 => (ZZ.v_and1 (t_lt (d_name (Has.s Has.z)) d_int))))) (fun s4 hk hz hp => ?_) (fun s4 hk hz hp => ?_)
  · exact y_retS (S := I (60 : Int)) d_int hz.h (List.Perm.refl _)
  · refine ds_next ?_
    exact y_retS (S := I s1.1) (d_name (Has.s (Has.s Has.z))) hz.h (List.Perm.refl _)

theorem g_law {M : Mo} {f : Addr} {fd : FuncData} {qual : Str} (Bl : Bx M) (F : Fun M.K "law" qual (stm 52) f fd) (G__law_pool : Gn M 1 "_law_pool" ["script", "many"] (c__law_pool M)) (G__law_draw : Gd M 1 "_law_draw" ["pool", "many"] (c__law_draw M)) (G__law_word : Gd M 2 "_law_word" ["pool", "words"] (c__law_word M)) (G__law_values : Gd M 2 "_law_values" ["pool", "many"] (c__law_values M)) (G__law_falling : Gd M 1 "_law_falling" ["values"] (c__law_falling M)) (G__law_percent : Gd M 2 "_law_percent" ["pool", "values", "order"] (c__law_percent M)) (G__law_beginning : Gd M 1 "_law_beginning" ["values", "order", "percent"] (c__law_beginning M)) (G__law_classes_hold : Gd M 6 "_law_classes_hold" ["items", "first", "second", "names", "marks"] (c__law_classes_hold M)) (G__law_period : Gd M 2 "_law_period" ["pool"] (c__law_period M)) (G__law_rests : Gd M 1 "_law_rests" ["names", "marks", "periods"] (c__law_rests M)) (G__law_days : Gd M 2 "_law_days" ["pool", "many"] (c__law_days M)) (G__law_plan : Gd M 1 "_law_plan" ["names", "rests_v", "days"] (c__law_plan M)) (G_count_plan : Gd M 4 "count_plan" ["items", "first", "second", "periods", "days"] (c_count_plan M)) (G_same : Gsame M) (G_loads : Gd M 1 "loads" ["plan"] (c_loads M)) (G__law_shares_hold : Gd M 6 "_law_shares_hold" ["many", "period"] (c__law_shares_hold M)) (G__law_next_holds : Gd M 6 "_law_next_holds" ["items", "percents", "periods", "names", "rests_v", "at", "day"] (c__law_next_holds M)) (G__law_wholes_hold : Gd M 16 "_law_wholes_hold" ["names", "values", "order", "many", "each", "spare"] (c__law_wholes_hold M)) : FnOk M.P M.w M.K M.mg M.base CX0 17 f fd ["script"] (c_law M).sp := by
  refine gd_fn F sc_law (by intro _; rfl) fun X B0 F0 D g hp hR hN => ?_
  generalize hg0 : g = script_ at *
  have hz : Go (fun B z => Rt B F0 D.rt (Bo z) []) B0 (v_law script_) := ⟨hR, fun _ _ _ e h => h.mono e⟩
  have hp : o_law script_ := hp
  clear hR
  dsimp only [mkΓ, c_law]
  unfold v_law at hz
  unfold o_law at hp
  obtain ⟨q132, hp⟩ := hp
  refine y_own (Cv := Cl I) (v := (v__law_pool script_ (200 : Int))) (d_callN (t := c__law_pool M) (script_, (200 : Int)) G__law_pool q132 (a_cons (d_name Has.z) (a_cons d_int a_nil))) hz hp (fun pool_2 hz hp l_pool0 => ⟨_, (Put.s Put.z), ?_⟩)
  obtain ⟨q131, hp⟩ := hp
  refine y_asgS (R := I) (d := (((1 : Int) + (v__law_draw pool_2 (6 : Int)).1), (v__law_draw pool_2 (6 : Int)).2)) (fun w4 => [(l_pool0, Cl I w4)]) hz hp (d_add d_int (d_callP (t := c__law_draw M) (l_pool0, pool_2, (6 : Int)) G__law_draw q131 (Tak.perm Tak.z) (Tak.perm Tak.z).symm (a_cons (d_name (Has.s Has.z)) (a_cons d_int a_nil)))) (fun s3 hz hp => ⟨_, (Put.s (Put.s Put.z)), ?_⟩)
  obtain ⟨q130, hp⟩ := hp
  refine y_ifLS (d := ((decide ((v__law_draw s3.2 (4 : Int)).1 = (0 : Int))), (v__law_draw s3.2 (4 : Int)).2)) (fun s7 : (List Int) × Int => ([("script", some ((Sk M.K) script_)), ("pool", some (At l_pool0)), ("many", some (I s7.2)), ("words", none), ("k", none), ("names", none), ("values", none), ("items", none), ("turn", none), ("order", none), ("percents", none), ("top", none), ("both", none), ("marks", none), ("place", none), ("periods", none), ("rests_v", none), ("days", none), ("due", none), ("told", none), ("at", none), ("each", none), ("spare", none), ("word", none), ("percent", none), ("day", none)] : En)) (fun s7 => [(l_pool0, Cl I s7.1)]) (fun w6 => [(l_pool0, Cl I w6)]) hz hp (t_eqI (d_callP (t := c__law_draw M) (l_pool0, s3.2, (4 : Int)) G__law_draw q130 (Tak.perm Tak.z) (Tak.perm Tak.z).symm (a_cons (d_name (Has.s Has.z)) (a_cons d_int a_nil))) d_int) (fun s5 hk hp hz => ?_) (fun s5 hk hp hz => ?_) (fun s7 hz hp => ?_)
  · refine y_asg (R := I) (v := (s3.1 + (6 : Int))) (d_add (d_name (Has.s (Has.s Has.z))) d_int) hz hp (fun many_8 hz hp => ⟨_, (Put.s (Put.s Put.z)), ?_⟩)
    exact y_re (by walk_at "fg") (List.Perm.refl _) hz.h
  · exact y_re (by walk_at "fg") (List.Perm.refl _) hz.h
  · refine y_own (Cv := Cl Tx) (v := ([] : List Str)) (DN.c (n_lstQ Tx ([] : List Str) a_nil)) hz hp (fun words_10 hz hp l_words8 => ⟨_, (Put.s (Put.s (Put.s Put.z))), ?_⟩)
    obtain ⟨q129, hp⟩ := hp
    refine y_for (Rb := I) (fun s11 : (List Int) × (List Str) => ([("script", some ((Sk M.K) script_)), ("pool", some (At l_pool0)), ("many", some (I s7.2)), ("words", some (At l_words8)), ("k", none), ("names", none), ("values", none), ("items", none), ("turn", none), ("order", none), ("percents", none), ("top", none), ("both", none), ("marks", none), ("place", none), ("periods", none), ("rests_v", none), ("days", none), ("due", none), ("told", none), ("at", none), ("each", none), ("spare", none), ("word", none), ("percent", none), ("day", none)] : En)) (fun s11 : (List Int) × (List Str) => [(l_words8, Cl Tx s11.2), (l_pool0, Cl I s11.1)]) (i_rng1L q129 (d_name (Has.s (Has.s Has.z))) Bl.range) (by walk_at "fg") (List.Perm.refl _) (by intro _; rfl) hz hp ?_ ?_
    · rintro ⟨Dn, Dr, Dk, Dc⟩ B1 hB1 hrt s11 y12 hp hz
      obtain rfl : Dr = _ := hrt
      refine ⟨_, _, (g_name (Put.s (Put.s (Put.s (Put.s Put.z))))), ?_⟩
      obtain ⟨q15, q16, hp⟩ := hp
      refine y_appS (R := Tx) (d := ((v__law_word s11.1 s11.2).1, (v__law_word s11.1 s11.2).2)) (fun w14 => [(l_words8, Cl Tx s11.2), (l_pool0, Cl I w14)]) q15 hz hp (d_name (Has.s (Has.s (Has.s Has.z)))) Hold.z (d_lendP (Upg.s (Upg.s (Upg.s Upg.z))) Tak.z Tak.z rfl (flC flN) (d_callP (t := c__law_word M) (l_pool0, s11.1, s11.2) G__law_word q16 (Tak.perm Tak.z) (Tak.perm Tak.z).symm (a_cons (d_name (Has.s Has.z)) (a_cons (d_name (Has.s (Has.s (Has.s Has.z)))) a_nil)))) (fun s13 hz hp => ⟨_, Swp.z, ?_⟩)
      exact y_re (by walk_at "fg") (List.Perm.refl _) hz.h
    · intro s17 hz hp
      refine ds_freeze (Upg.s (Upg.s (Upg.s Upg.z))) Tak.z ?_
      obtain ⟨q124, q125, q126, q127, q128, hp⟩ := hp
      refine y_asg (R := (Sq true Tx)) (v := (srt leS (s17.2.map fun y20 => y20))) (DNc.frz (n_sort_S q128 (DNc.frz (n_map (R := Tx) (f := fun y20 => y20) (ok := fun y20 => True) [("word", 23)] q127 q126 (i_seqL (Rs := Tx) (d_name (Has.s (Has.s (Has.s Has.z))))) (blkOk_by (by show blkC nm_law (defScope (stm 52)) _ _ = true; decide +kernel)) (by repeat constructor) (fun y20 h1 => ⟨_, _, (g_name (Put.s (Put.s (Put.s (Put.s (Put.s (Put.s (Put.s (Put.s (Put.s (Put.s (Put.s (Put.s (Put.s (Put.s (Put.s (Put.s (Put.s (Put.s (Put.s (Put.s (Put.s (Put.s (Put.s Put.z)))))))))))))))))))))))), by simp, (d_strS (d_name (Has.s (Has.s (Has.s (Has.s (Has.s (Has.s (Has.s (Has.s (Has.s (Has.s (Has.s (Has.s (Has.s (Has.s (Has.s (Has.s (Has.s (Has.s (Has.s (Has.s (Has.s (Has.s (Has.s Has.z)))))))))))))))))))))))) Bl.str)⟩))) Bl.sorted)) hz hp (fun names_21 hz hp => ⟨_, (Put.s (Put.s (Put.s (Put.s (Put.s Put.z))))), ?_⟩)
      obtain ⟨q123, hp⟩ := hp
      refine y_asgS (R := (Sq true I)) (d := ((v__law_values s17.1 s7.2).1, (v__law_values s17.1 s7.2).2)) (fun w23 => [(l_pool0, Cl I w23)]) hz hp (d_callP (t := c__law_values M) (l_pool0, s17.1, s7.2) G__law_values q123 (Tak.perm Tak.z) (Tak.perm Tak.z).symm (a_cons (d_name (Has.s Has.z)) (a_cons (d_name (Has.s (Has.s Has.z))) a_nil))) (fun s22 hz hp => ⟨_, (Put.s (Put.s (Put.s (Put.s (Put.s (Put.s Put.z)))))), ?_⟩)
      obtain ⟨q120, q121, q122, hp⟩ := hp
      refine y_map (R := (pr2 Tx I)) (f := fun y24 => ((gt names_21 y24), (gt s22.1 y24))) (ok := fun y24 => (okx names_21 y24) ∧ (okx s22.1 y24)) [("k", 4)] q122 q121 hz hp (i_rng1L q120 (d_name (Has.s (Has.s Has.z))) Bl.range) (blkOk_by (by show blkC nm_law (defScope (stm 52)) _ _ = true; decide +kernel)) (by repeat constructor) (fun y24 h1 => ⟨_, _, (g_name (Put.s (Put.s (Put.s (Put.s Put.z))))), by simp, (d_tup (a_cons (d_at (Rs := Tx) h1.1 (d_name (Has.s (Has.s (Has.s (Has.s (Has.s Has.z)))))) (d_name (Has.s (Has.s (Has.s (Has.s Has.z)))))) (a_cons (d_at (Rs := I) h1.2 (d_name (Has.s (Has.s (Has.s (Has.s (Has.s (Has.s Has.z))))))) (d_name (Has.s (Has.s (Has.s (Has.s Has.z)))))) a_nil)))⟩) (Put.s (Put.s (Put.s (Put.s (Put.s (Put.s (Put.s Put.z))))))) (fun items_26 hz hp l_items24 => ⟨_, (Put.s (Put.s (Put.s (Put.s (Put.s (Put.s (Put.s Put.z))))))), ?_⟩)
      obtain ⟨q119, hp⟩ := hp
      refine y_asgS (R := I) (d := ((v__law_draw s22.2 s7.2).1, (v__law_draw s22.2 s7.2).2)) (fun w28 => [(l_items24, Cl (pr2 Tx I) items_26), (l_pool0, Cl I w28)]) hz hp (d_callP (t := c__law_draw M) (l_pool0, s22.2, s7.2) G__law_draw q119 (Tak.perm (Tak.s Tak.z)) (Tak.perm (Tak.s Tak.z)).symm (a_cons (d_name (Has.s Has.z)) (a_cons (d_name (Has.s (Has.s Has.z))) a_nil))) (fun s27 hz hp => ⟨_, (Put.s (Put.s (Put.s (Put.s (Put.s (Put.s (Put.s (Put.s Put.z)))))))), ?_⟩)
      obtain ⟨q118, hp⟩ := hp
      refine y_own (Cv := Cl (pr2 Tx I)) (v := ((cut items_26 (some s27.1) none) ++ (cut items_26 none (some s27.1)))) (DN.c (n_cat (Rs := (pr2 Tx I)) (DNc.frz (n_slO (R := (pr2 Tx I)) (d_name (Has.s (Has.s (Has.s (Has.s (Has.s (Has.s (Has.s Has.z)))))))) (o_some (d_name (Has.s (Has.s (Has.s (Has.s (Has.s (Has.s (Has.s (Has.s Has.z)))))))))) o_none Hold.z)) (DNc.frz (n_slO (R := (pr2 Tx I)) (d_name (Has.s (Has.s (Has.s (Has.s (Has.s (Has.s (Has.s Has.z)))))))) o_none (o_some (d_name (Has.s (Has.s (Has.s (Has.s (Has.s (Has.s (Has.s (Has.s Has.z)))))))))) Hold.z)) q118)) hz hp (fun items_30 hz hp l_items28 => ⟨_, (Put.s (Put.s (Put.s (Put.s (Put.s (Put.s (Put.s Put.z))))))), ?_⟩)
      refine y_drop (Tak.s Tak.z) ?_
      obtain ⟨q117, hp⟩ := hp
      refine y_ifLS (d := ((decide ((v__law_draw s27.2 (2 : Int)).1 = (0 : Int))), (v__law_draw s27.2 (2 : Int)).2)) (fun s33 : (List Int) × (List (Str × Int)) => ([("script", some ((Sk M.K) script_)), ("pool", some (At l_pool0)), ("many", some (I s7.2)), ("words", some ((Sq true Tx) s17.2)), ("k", none), ("names", some ((Sq true Tx) names_21)), ("values", some ((Sq true I) s22.1)), ("items", some (At l_items28)), ("turn", some (I s27.1)), ("order", none), ("percents", none), ("top", none), ("both", none), ("marks", none), ("place", none), ("periods", none), ("rests_v", none), ("days", none), ("due", none), ("told", none), ("at", none), ("each", none), ("spare", none), ("word", none), ("percent", none), ("day", none)] : En)) (fun s33 => [(l_items28, Cl (pr2 Tx I) s33.2), (l_pool0, Cl I s33.1)]) (fun w32 => [(l_items28, Cl (pr2 Tx I) items_30), (l_pool0, Cl I w32)]) hz hp (t_eqI (d_callP (t := c__law_draw M) (l_pool0, s27.2, (2 : Int)) G__law_draw q117 (Tak.perm (Tak.s Tak.z)) (Tak.perm (Tak.s Tak.z)).symm (a_cons (d_name (Has.s Has.z)) (a_cons d_int a_nil))) d_int) (fun s31 hk hp hz => ?_) (fun s31 hk hp hz => ?_) (fun s33 hz hp => ?_)
      · refine y_rev (R := (pr2 Tx I)) hz hp (d_name (Has.s (Has.s (Has.s (Has.s (Has.s (Has.s (Has.s Has.z)))))))) Hold.z (fun items_34 hz hp => ⟨_, Swp.z, ?_⟩)
        exact y_re (by walk_at "fg") (List.Perm.refl _) hz.h
      · exact y_re (by walk_at "fg") (List.Perm.refl _) hz.h
      · obtain ⟨q116, hp⟩ := hp
        refine y_asg (R := (Sq true I)) (v := (v__law_falling s22.1)) (d_callQ (t := c__law_falling M) s22.1 G__law_falling q116 (a_cons (d_name (Has.s (Has.s (Has.s (Has.s (Has.s (Has.s Has.z))))))) a_nil)) hz hp (fun order_35 hz hp => ⟨_, (Put.s (Put.s (Put.s (Put.s (Put.s (Put.s (Put.s (Put.s (Put.s Put.z))))))))), ?_⟩)
        obtain ⟨q114, q115, hp⟩ := hp
        refine y_asgS (R := (Sq true I)) (d := ([(v__law_percent s33.1 s22.1 order_35).1, (v__law_percent ((v__law_percent s33.1 s22.1 order_35).2) s22.1 order_35).1], (v__law_percent ((v__law_percent s33.1 s22.1 order_35).2) s22.1 order_35).2)) (fun w37 => [(l_items28, Cl (pr2 Tx I) s33.2), (l_pool0, Cl I w37)]) hz hp (DNc.frz (DN.c (n_lstQ I [(v__law_percent s33.1 s22.1 order_35).1, (v__law_percent ((v__law_percent s33.1 s22.1 order_35).2) s22.1 order_35).1] (a_cons (d_callP (t := c__law_percent M) (l_pool0, s33.1, s22.1, order_35) G__law_percent q114 (Tak.perm (Tak.s Tak.z)) (Tak.perm (Tak.s Tak.z)).symm (a_cons (d_name (Has.s Has.z)) (a_cons (d_name (Has.s (Has.s (Has.s (Has.s (Has.s (Has.s Has.z))))))) (a_cons (d_name (Has.s (Has.s (Has.s (Has.s (Has.s (Has.s (Has.s (Has.s (Has.s Has.z)))))))))) a_nil)))) (a_cons (d_callP (t := c__law_percent M) (l_pool0, ((v__law_percent s33.1 s22.1 order_35).2), s22.1, order_35) G__law_percent q115 (Tak.perm (Tak.s Tak.z)) (Tak.perm (Tak.s Tak.z)).symm (a_cons (d_name (Has.s Has.z)) (a_cons (d_name (Has.s (Has.s (Has.s (Has.s (Has.s (Has.s Has.z))))))) (a_cons (d_name (Has.s (Has.s (Has.s (Has.s (Has.s (Has.s (Has.s (Has.s (Has.s Has.z)))))))))) a_nil)))) a_nil))))) (fun s36 hz hp => ⟨_, (Put.s (Put.s (Put.s (Put.s (Put.s (Put.s (Put.s (Put.s (Put.s (Put.s Put.z)))))))))), ?_⟩)
        obtain ⟨q110, q111, q112, q113, hp⟩ := hp
        refine y_asg (R := (Sq true I)) (v := (srt leI (s36.1.map fun y39 => y39))) (DNc.frz (n_sort_I (DNc.frz (n_map (R := I) (f := fun y39 => y39) (ok := fun y39 => True) [("percent", 24)] q113 q112 (i_seqL (Rs := I) (d_name (Has.s (Has.s (Has.s (Has.s (Has.s (Has.s (Has.s (Has.s (Has.s (Has.s Has.z)))))))))))) (blkOk_by (by show blkC nm_law (defScope (stm 52)) _ _ = true; decide +kernel)) (by repeat constructor) (fun y39 h1 => ⟨_, _, (g_name (Put.s (Put.s (Put.s (Put.s (Put.s (Put.s (Put.s (Put.s (Put.s (Put.s (Put.s (Put.s (Put.s (Put.s (Put.s (Put.s (Put.s (Put.s (Put.s (Put.s (Put.s (Put.s (Put.s (Put.s Put.z))))))))))))))))))))))))), by simp, (d_intI (d_name (Has.s (Has.s (Has.s (Has.s (Has.s (Has.s (Has.s (Has.s (Has.s (Has.s (Has.s (Has.s (Has.s (Has.s (Has.s (Has.s (Has.s (Has.s (Has.s (Has.s (Has.s (Has.s (Has.s (Has.s Has.z))))))))))))))))))))))))) Bl.int)⟩))) Bl.sorted)) hz hp (fun percents_40 hz hp => ⟨_, (Put.s (Put.s (Put.s (Put.s (Put.s (Put.s (Put.s (Put.s (Put.s (Put.s Put.z)))))))))), ?_⟩)
        obtain ⟨q108, q109, hp⟩ := hp
        refine y_asg (R := I) (v := (v__law_beginning s22.1 order_35 (gt percents_40 (0 : Int)))) (d_callQ (t := c__law_beginning M) (s22.1, order_35, (gt percents_40 (0 : Int))) G__law_beginning q109 (a_cons (d_name (Has.s (Has.s (Has.s (Has.s (Has.s (Has.s Has.z))))))) (a_cons (d_name (Has.s (Has.s (Has.s (Has.s (Has.s (Has.s (Has.s (Has.s (Has.s Has.z)))))))))) (a_cons (d_at (Rs := I) q108 (d_name (Has.s (Has.s (Has.s (Has.s (Has.s (Has.s (Has.s (Has.s (Has.s (Has.s Has.z))))))))))) d_int) a_nil)))) hz hp (fun top_41 hz hp => ⟨_, (Put.s (Put.s (Put.s (Put.s (Put.s (Put.s (Put.s (Put.s (Put.s (Put.s (Put.s Put.z))))))))))), ?_⟩)
        obtain ⟨q106, q107, hp⟩ := hp
        refine y_asg (R := I) (v := (v__law_beginning s22.1 order_35 (gt percents_40 (1 : Int)))) (d_callQ (t := c__law_beginning M) (s22.1, order_35, (gt percents_40 (1 : Int))) G__law_beginning q107 (a_cons (d_name (Has.s (Has.s (Has.s (Has.s (Has.s (Has.s Has.z))))))) (a_cons (d_name (Has.s (Has.s (Has.s (Has.s (Has.s (Has.s (Has.s (Has.s (Has.s Has.z)))))))))) (a_cons (d_at (Rs := I) q106 (d_name (Has.s (Has.s (Has.s (Has.s (Has.s (Has.s (Has.s (Has.s (Has.s (Has.s Has.z))))))))))) d_int) a_nil)))) hz hp (fun both_42 hz hp => ⟨_, (Put.s (Put.s (Put.s (Put.s (Put.s (Put.s (Put.s (Put.s (Put.s (Put.s (Put.s (Put.s Put.z)))))))))))), ?_⟩)
        obtain ⟨q105, hp⟩ := hp
        refine y_own (Cv := Cl Tx) (v := (rep ([("c" : Str)]) s7.2)) (n_rep q105 (DNc.frz (DN.c (n_lstQ Tx [("c" : Str)] (a_cons d_str a_nil)))) (d_name (Has.s (Has.s Has.z)))) hz hp (fun marks_44 hz hp l_marks42 => ⟨_, (Put.s (Put.s (Put.s (Put.s (Put.s (Put.s (Put.s (Put.s (Put.s (Put.s (Put.s (Put.s (Put.s Put.z))))))))))))), ?_⟩)
        refine y_for (Rb := I) (fun s45 : (List Str) => ([("script", some ((Sk M.K) script_)), ("pool", some (At l_pool0)), ("many", some (I s7.2)), ("words", some ((Sq true Tx) s17.2)), ("k", none), ("names", some ((Sq true Tx) names_21)), ("values", some ((Sq true I) s22.1)), ("items", some (At l_items28)), ("turn", some (I s27.1)), ("order", some ((Sq true I) order_35)), ("percents", some ((Sq true I) percents_40)), ("top", some (I top_41)), ("both", some (I both_42)), ("marks", some (At l_marks42)), ("place", none), ("periods", none), ("rests_v", none), ("days", none), ("due", none), ("told", none), ("at", none), ("each", none), ("spare", none), ("word", none), ("percent", none), ("day", none)] : En)) (fun s45 : (List Str) => [(l_marks42, Cl Tx s45), (l_items28, Cl (pr2 Tx I) s33.2), (l_pool0, Cl I s36.2)]) (i_seqL (Rs := I) (d_sl (d_name (Has.s (Has.s (Has.s (Has.s (Has.s (Has.s (Has.s (Has.s (Has.s Has.z)))))))))) o_none (o_some (d_name (Has.s (Has.s (Has.s (Has.s (Has.s (Has.s (Has.s (Has.s (Has.s (Has.s (Has.s (Has.s Has.z)))))))))))))))) (by walk_at "fg") (List.Perm.refl _) (by intro _; rfl) hz hp ?_ ?_
        · rintro ⟨Dn, Dr, Dk, Dc⟩ B1 hB1 hrt s45 y46 hp hz
          obtain rfl : Dr = _ := hrt
          refine ⟨_, _, (g_name (Put.s (Put.s (Put.s (Put.s (Put.s (Put.s (Put.s (Put.s (Put.s (Put.s (Put.s (Put.s (Put.s (Put.s Put.z))))))))))))))), ?_⟩
          obtain ⟨q48, hp⟩ := hp
          refine y_set (R := Tx) q48 hz hp d_str (d_name (Has.s (Has.s (Has.s (Has.s (Has.s (Has.s (Has.s (Has.s (Has.s (Has.s (Has.s (Has.s (Has.s Has.z)))))))))))))) (d_name (Has.s (Has.s (Has.s (Has.s (Has.s (Has.s (Has.s (Has.s (Has.s (Has.s (Has.s (Has.s (Has.s (Has.s Has.z))))))))))))))) (fun marks_47 hz hp => ⟨_, Swp.z, ?_⟩)
          exact y_re (by walk_at "fg") (List.Perm.refl _) hz.h
        · intro s49 hz hp
          refine y_for (Rb := I) (fun s50 : (List Str) => ([("script", some ((Sk M.K) script_)), ("pool", some (At l_pool0)), ("many", some (I s7.2)), ("words", some ((Sq true Tx) s17.2)), ("k", none), ("names", some ((Sq true Tx) names_21)), ("values", some ((Sq true I) s22.1)), ("items", some (At l_items28)), ("turn", some (I s27.1)), ("order", some ((Sq true I) order_35)), ("percents", some ((Sq true I) percents_40)), ("top", some (I top_41)), ("both", some (I both_42)), ("marks", some (At l_marks42)), ("place", none), ("periods", none), ("rests_v", none), ("days", none), ("due", none), ("told", none), ("at", none), ("each", none), ("spare", none), ("word", none), ("percent", none), ("day", none)] : En)) (fun s50 : (List Str) => [(l_marks42, Cl Tx s50), (l_items28, Cl (pr2 Tx I) s33.2), (l_pool0, Cl I s36.2)]) (i_seqL (Rs := I) (d_sl (d_name (Has.s (Has.s (Has.s (Has.s (Has.s (Has.s (Has.s (Has.s (Has.s Has.z)))))))))) o_none (o_some (d_name (Has.s (Has.s (Has.s (Has.s (Has.s (Has.s (Has.s (Has.s (Has.s (Has.s (Has.s Has.z))))))))))))))) (by walk_at "fg") (List.Perm.refl _) (by intro _; rfl) hz hp ?_ ?_
          · rintro ⟨Dn, Dr, Dk, Dc⟩ B1 hB1 hrt s50 y51 hp hz
            obtain rfl : Dr = _ := hrt
            refine ⟨_, _, (g_name (Put.s (Put.s (Put.s (Put.s (Put.s (Put.s (Put.s (Put.s (Put.s (Put.s (Put.s (Put.s (Put.s (Put.s Put.z))))))))))))))), ?_⟩
            obtain ⟨q53, hp⟩ := hp
            refine y_set (R := Tx) q53 hz hp d_str (d_name (Has.s (Has.s (Has.s (Has.s (Has.s (Has.s (Has.s (Has.s (Has.s (Has.s (Has.s (Has.s (Has.s Has.z)))))))))))))) (d_name (Has.s (Has.s (Has.s (Has.s (Has.s (Has.s (Has.s (Has.s (Has.s (Has.s (Has.s (Has.s (Has.s (Has.s Has.z))))))))))))))) (fun marks_52 hz hp => ⟨_, Swp.z, ?_⟩)
            exact y_re (by walk_at "fg") (List.Perm.refl _) hz.h
          · intro s54 hz hp
            refine ds_freeze (Upg.s (Upg.s (Upg.s (Upg.s (Upg.s (Upg.s (Upg.s Upg.z))))))) (Tak.s Tak.z) ?_
            refine ds_freeze (Upg.s (Upg.s (Upg.s (Upg.s (Upg.s (Upg.s (Upg.s (Upg.s (Upg.s (Upg.s (Upg.s (Upg.s (Upg.s Upg.z))))))))))))) Tak.z ?_
            obtain ⟨q102, q103, q104, hp⟩ := hp
            refine y_ite (t_notD (t_val (d_callQ (t := c__law_classes_hold M) (s33.2, (gt percents_40 (0 : Int)), (gt percents_40 (1 : Int)), names_21, s54) G__law_classes_hold q104 (a_cons (d_name (Has.s (Has.s (Has.s (Has.s (Has.s (Has.s (Has.s Has.z)))))))) (a_cons (d_at (Rs := I) q102 (d_name (Has.s (Has.s (Has.s (Has.s (Has.s (Has.s (Has.s (Has.s (Has.s (Has.s Has.z))))))))))) d_int) (a_cons (d_at (Rs := I) q103 (d_name (Has.s (Has.s (Has.s (Has.s (Has.s (Has.s (Has.s (Has.s (Has.s (Has.s Has.z))))))))))) d_int) (a_cons (d_name (Has.s (Has.s (Has.s (Has.s (Has.s Has.z)))))) (a_cons (d_name (Has.s (Has.s (Has.s (Has.s (Has.s (Has.s (Has.s (Has.s (Has.s (Has.s (Has.s (Has.s (Has.s Has.z)))))))))))))) a_nil)))))))) hz hp (fun hk hz hp => ?_) (fun hk hz hp => ?_)
            · exact ds_ret0 (T := Bo false) hz.h d_bool rfl
            · refine ds_next ?_
              obtain ⟨q99, q100, q101, hp⟩ := hp
              refine y_mapS (R := I) (f := (fun (s56 : (List Int)) (y55 : Int) => ((v__law_period s56).1, (v__law_period s56).2))) (ok := (fun (s56 : (List Int)) (y55 : Int) => (o__law_period s56))) (s0 := s36.2) (fun w57 => [(l_pool0, Cl I w57)]) [("k", 4)] (by intro _ _; rfl) q101 q100 hz hp (i_rng1L q99 d_int Bl.range) (blkOk_by (by show blkC nm_law (defScope (stm 52)) _ _ = true; decide +kernel)) (by repeat constructor) (fun s56 y55 h1 => ⟨_, _, (g_name (Put.s (Put.s (Put.s (Put.s Put.z))))), by simp, (d_callP (t := c__law_period M) (l_pool0, s56) G__law_period h1 (Tak.perm Tak.z) (Tak.perm Tak.z).symm (a_cons (d_name (Has.s Has.z)) a_nil))⟩) (Put.s (Put.s (Put.s (Put.s (Put.s (Put.s (Put.s (Put.s (Put.s (Put.s (Put.s (Put.s (Put.s (Put.s (Put.s Put.z))))))))))))))) (fun periods_58 hz hp l_periods58 => ⟨_, (Put.s (Put.s (Put.s (Put.s (Put.s (Put.s (Put.s (Put.s (Put.s (Put.s (Put.s (Put.s (Put.s (Put.s (Put.s Put.z))))))))))))))), ?_⟩)
              refine ds_freeze (Upg.s (Upg.s (Upg.s (Upg.s (Upg.s (Upg.s (Upg.s (Upg.s (Upg.s (Upg.s (Upg.s (Upg.s (Upg.s (Upg.s (Upg.s Upg.z))))))))))))))) Tak.z ?_
              obtain ⟨q98, hp⟩ := hp
              refine y_asg (R := (Sq true (pr2 I I))) (v := (v__law_rests names_21 s54 periods_58.1)) (d_callQ (t := c__law_rests M) (names_21, s54, periods_58.1) G__law_rests q98 (a_cons (d_name (Has.s (Has.s (Has.s (Has.s (Has.s Has.z)))))) (a_cons (d_name (Has.s (Has.s (Has.s (Has.s (Has.s (Has.s (Has.s (Has.s (Has.s (Has.s (Has.s (Has.s (Has.s Has.z)))))))))))))) (a_cons (d_name (Has.s (Has.s (Has.s (Has.s (Has.s (Has.s (Has.s (Has.s (Has.s (Has.s (Has.s (Has.s (Has.s (Has.s (Has.s Has.z)))))))))))))))) a_nil)))) hz hp (fun rests_v_60 hz hp => ⟨_, (Put.s (Put.s (Put.s (Put.s (Put.s (Put.s (Put.s (Put.s (Put.s (Put.s (Put.s (Put.s (Put.s (Put.s (Put.s (Put.s Put.z)))))))))))))))), ?_⟩)
              obtain ⟨q97, hp⟩ := hp
              refine y_asgS (R := I) (d := ((v__law_days periods_58.2 s7.2).1, (v__law_days periods_58.2 s7.2).2)) (fun w62 => [(l_pool0, Cl I w62)]) hz hp (d_callP (t := c__law_days M) (l_pool0, periods_58.2, s7.2) G__law_days q97 (Tak.perm Tak.z) (Tak.perm Tak.z).symm (a_cons (d_name (Has.s Has.z)) (a_cons (d_name (Has.s (Has.s Has.z))) a_nil))) (fun s61 hz hp => ⟨_, (Put.s (Put.s (Put.s (Put.s (Put.s (Put.s (Put.s (Put.s (Put.s (Put.s (Put.s (Put.s (Put.s (Put.s (Put.s (Put.s (Put.s Put.z))))))))))))))))), ?_⟩)
              obtain ⟨q96, hp⟩ := hp
              refine y_asg (R := (Sq false (Sq false Tx))) (v := (v__law_plan names_21 rests_v_60 s61.1)) (d_callQ (t := c__law_plan M) (names_21, rests_v_60, s61.1) G__law_plan q96 (a_cons (d_name (Has.s (Has.s (Has.s (Has.s (Has.s Has.z)))))) (a_cons (d_name (Has.s (Has.s (Has.s (Has.s (Has.s (Has.s (Has.s (Has.s (Has.s (Has.s (Has.s (Has.s (Has.s (Has.s (Has.s (Has.s Has.z))))))))))))))))) (a_cons (d_name (Has.s (Has.s (Has.s (Has.s (Has.s (Has.s (Has.s (Has.s (Has.s (Has.s (Has.s (Has.s (Has.s (Has.s (Has.s (Has.s (Has.s Has.z)))))))))))))))))) a_nil)))) hz hp (fun due_63 hz hp => ⟨_, (Put.s (Put.s (Put.s (Put.s (Put.s (Put.s (Put.s (Put.s (Put.s (Put.s (Put.s (Put.s (Put.s (Put.s (Put.s (Put.s (Put.s (Put.s Put.z)))))))))))))))))), ?_⟩)
              obtain ⟨q93, q94, q95, hp⟩ := hp
              refine y_asg (R := (Sq false (Sq false Tx))) (v := (v_count_plan s33.2 (gt percents_40 (0 : Int)) (gt percents_40 (1 : Int)) periods_58.1 s61.1)) (d_callQ (t := c_count_plan M) (s33.2, (gt percents_40 (0 : Int)), (gt percents_40 (1 : Int)), periods_58.1, s61.1) G_count_plan q95 (a_cons (DNc.frz (DN.c (n_list (Rs := (pr2 Tx I)) (d_name (Has.s (Has.s (Has.s (Has.s (Has.s (Has.s (Has.s Has.z)))))))) Bl.list))) (a_cons (d_at (Rs := I) q93 (d_name (Has.s (Has.s (Has.s (Has.s (Has.s (Has.s (Has.s (Has.s (Has.s (Has.s Has.z))))))))))) d_int) (a_cons (d_at (Rs := I) q94 (d_name (Has.s (Has.s (Has.s (Has.s (Has.s (Has.s (Has.s (Has.s (Has.s (Has.s Has.z))))))))))) d_int) (a_cons (d_tuple (Rs := I) (d_name (Has.s (Has.s (Has.s (Has.s (Has.s (Has.s (Has.s (Has.s (Has.s (Has.s (Has.s (Has.s (Has.s (Has.s (Has.s Has.z)))))))))))))))) Bl.tuple) (a_cons (d_name (Has.s (Has.s (Has.s (Has.s (Has.s (Has.s (Has.s (Has.s (Has.s (Has.s (Has.s (Has.s (Has.s (Has.s (Has.s (Has.s (Has.s Has.z)))))))))))))))))) a_nil)))))) hz hp (fun told_64 hz hp => ⟨_, (Put.s (Put.s (Put.s (Put.s (Put.s (Put.s (Put.s (Put.s (Put.s (Put.s (Put.s (Put.s (Put.s (Put.s (Put.s (Put.s (Put.s (Put.s (Put.s Put.z))))))))))))))))))), ?_⟩)
              obtain ⟨q92, hp⟩ := hp
              refine y_ite (t_notD (t_val (d_same (R := (Sq false (Sq false Tx))) G_same q92 (d_name (Has.s (Has.s (Has.s (Has.s (Has.s (Has.s (Has.s (Has.s (Has.s (Has.s (Has.s (Has.s (Has.s (Has.s (Has.s (Has.s (Has.s (Has.s (Has.s Has.z)))))))))))))))))))) (d_name (Has.s (Has.s (Has.s (Has.s (Has.s (Has.s (Has.s (Has.s (Has.s (Has.s (Has.s (Has.s (Has.s (Has.s (Has.s (Has.s (Has.s (Has.s Has.z)))))))))))))))))))))) hz hp (fun hk hz hp => ?_) (fun hk hz hp => ?_)
              · exact ds_ret0 (T := Bo false) hz.h d_bool rfl
              · refine ds_next ?_
                obtain ⟨q88, q89, q90, q91, hp⟩ := hp
                refine y_ite (t_notD (t_val (d_same (R := (Sq false I)) G_same q91 (d_callQ (t := c_loads M) due_63 G_loads q88 (a_cons (d_name (Has.s (Has.s (Has.s (Has.s (Has.s (Has.s (Has.s (Has.s (Has.s (Has.s (Has.s (Has.s (Has.s (Has.s (Has.s (Has.s (Has.s (Has.s Has.z))))))))))))))))))) a_nil)) (d_tuple (Rs := I) (DNc.frz (n_map (R := I) (f := fun y65 => (y65.length : Int)) (ok := fun y65 => True) [("day", 25)] q90 q89 (i_seqL (Rs := (Sq false Tx)) (d_name (Has.s (Has.s (Has.s (Has.s (Has.s (Has.s (Has.s (Has.s (Has.s (Has.s (Has.s (Has.s (Has.s (Has.s (Has.s (Has.s (Has.s (Has.s Has.z)))))))))))))))))))) (blkOk_by (by show blkC nm_law (defScope (stm 52)) _ _ = true; decide +kernel)) (by repeat constructor) (fun y65 h1 => ⟨_, _, (g_name (Put.s (Put.s (Put.s (Put.s (Put.s (Put.s (Put.s (Put.s (Put.s (Put.s (Put.s (Put.s (Put.s (Put.s (Put.s (Put.s (Put.s (Put.s (Put.s (Put.s (Put.s (Put.s (Put.s (Put.s (Put.s Put.z)))))))))))))))))))))))))), by simp, (d_len (Rs := Tx) (d_name (Has.s (Has.s (Has.s (Has.s (Has.s (Has.s (Has.s (Has.s (Has.s (Has.s (Has.s (Has.s (Has.s (Has.s (Has.s (Has.s (Has.s (Has.s (Has.s (Has.s (Has.s (Has.s (Has.s (Has.s (Has.s Has.z)))))))))))))))))))))))))) Bl.len)⟩))) Bl.tuple)))) hz hp (fun hk hz hp => ?_) (fun hk hz hp => ?_)
                · exact ds_ret0 (T := Bo false) hz.h d_bool rfl
                · refine ds_next ?_
                  obtain ⟨q87, hp⟩ := hp
                  refine y_forC (Rb := I) (fun s66 : Unit => ([("script", some ((Sk M.K) script_)), ("pool", some (At l_pool0)), ("many", some (I s7.2)), ("words", some ((Sq true Tx) s17.2)), ("k", none), ("names", some ((Sq true Tx) names_21)), ("values", some ((Sq true I) s22.1)), ("items", some ((Sq true (pr2 Tx I)) s33.2)), ("turn", some (I s27.1)), ("order", some ((Sq true I) order_35)), ("percents", some ((Sq true I) percents_40)), ("top", some (I top_41)), ("both", some (I both_42)), ("marks", some ((Sq true Tx) s54)), ("place", none), ("periods", some ((Sq true I) periods_58.1)), ("rests_v", some ((Sq true (pr2 I I)) rests_v_60)), ("days", some (I s61.1)), ("due", some ((Sq false (Sq false Tx)) due_63)), ("told", some ((Sq false (Sq false Tx)) told_64)), ("at", none), ("each", none), ("spare", none), ("word", none), ("percent", none), ("day", none)] : En)) (fun s66 : Unit => [(l_pool0, Cl I s61.2)]) (i_rng1L q87 d_int Bl.range) (by walk_at "fg") (List.Perm.refl _) (by intro _; rfl) hz hp ?_ ?_
                  · rintro ⟨Dn, Dr, Dk, Dc⟩ B1 hB1 hrt s66 y67 hp hz
                    obtain rfl : Dr = _ := hrt
                    refine ⟨_, _, (g_name (Put.s (Put.s (Put.s (Put.s Put.z))))), ?_⟩
                    obtain ⟨q69, q70, hp⟩ := hp
                    refine y_ite (t_w (w_and (t_lt (d_at (Rs := I) q69 (d_name (Has.s (Has.s (Has.s (Has.s (Has.s (Has.s (Has.s (Has.s (Has.s (Has.s (Has.s (Has.s (Has.s (Has.s (Has.s Has.z)))))))))))))))) (d_name (Has.s (Has.s (Has.s (Has.s Has.z)))))) d_int) (fun hc68 => (ZZ.v_and1 (t_notD (t_val (d_callQ (t := c__law_shares_hold M) ((cnt s54 (sgt ("abc" : Str) y67)), (gt periods_58.1 y67)) G__law_shares_hold (q70 hc68).2.2 (a_cons (d_cnt (R := Tx) (d_name (Has.s (Has.s (Has.s (Has.s (Has.s (Has.s (Has.s (Has.s (Has.s (Has.s (Has.s (Has.s (Has.s Has.z)))))))))))))) (d_sat (q70 hc68).1 d_str (d_name (Has.s (Has.s (Has.s (Has.s Has.z))))))) (a_cons (d_at (Rs := I) (q70 hc68).2.1 (d_name (Has.s (Has.s (Has.s (Has.s (Has.s (Has.s (Has.s (Has.s (Has.s (Has.s (Has.s (Has.s (Has.s (Has.s (Has.s Has.z)))))))))))))))) (d_name (Has.s (Has.s (Has.s (Has.s Has.z)))))) a_nil))))))))) hz hp (fun hk hz hp => ?_) (fun hk hz hp => ?_)
                    · exact ds_ret0 (T := Bo false) hz.h.h d_bool rfl
                    · refine ds_next ?_
                      exact y_re (by walk_at "fg") (List.Perm.refl _) hz.h.1
                  · intro s71 hz hp
                    obtain ⟨q86, hp⟩ := hp
                    refine y_asgS (R := I) (d := ((v__law_draw s61.2 s7.2).1, (v__law_draw s61.2 s7.2).2)) (fun w73 => [(l_pool0, Cl I w73)]) hz hp (d_callP (t := c__law_draw M) (l_pool0, s61.2, s7.2) G__law_draw q86 (Tak.perm Tak.z) (Tak.perm Tak.z).symm (a_cons (d_name (Has.s Has.z)) (a_cons (d_name (Has.s (Has.s Has.z))) a_nil))) (fun s72 hz hp => ⟨_, (Put.s (Put.s (Put.s (Put.s (Put.s (Put.s (Put.s (Put.s (Put.s (Put.s (Put.s (Put.s (Put.s (Put.s (Put.s (Put.s (Put.s (Put.s (Put.s (Put.s Put.z)))))))))))))))))))), ?_⟩)
                    obtain ⟨q84, q85, hp⟩ := hp
                    refine y_iteS (d := ((!(v__law_next_holds s33.2 percents_40 periods_58.1 names_21 rests_v_60 s72.1 ((v__law_draw s72.2 (100 : Int)).1))), (v__law_draw s72.2 (100 : Int)).2)) (fun w75 => [(l_pool0, Cl I w75)]) hz hp (t_notD (t_val (d_callQ (t := c__law_next_holds M) (s33.2, percents_40, periods_58.1, names_21, rests_v_60, s72.1, ((v__law_draw s72.2 (100 : Int)).1)) G__law_next_holds q85 (a_cons (d_name (Has.s (Has.s (Has.s (Has.s (Has.s (Has.s (Has.s Has.z)))))))) (a_cons (d_name (Has.s (Has.s (Has.s (Has.s (Has.s (Has.s (Has.s (Has.s (Has.s (Has.s Has.z))))))))))) (a_cons (d_name (Has.s (Has.s (Has.s (Has.s (Has.s (Has.s (Has.s (Has.s (Has.s (Has.s (Has.s (Has.s (Has.s (Has.s (Has.s Has.z)))))))))))))))) (a_cons (d_name (Has.s (Has.s (Has.s (Has.s (Has.s Has.z)))))) (a_cons (d_name (Has.s (Has.s (Has.s (Has.s (Has.s (Has.s (Has.s (Has.s (Has.s (Has.s (Has.s (Has.s (Has.s (Has.s (Has.s (Has.s Has.z))))))))))))))))) (a_cons (d_name (Has.s (Has.s (Has.s (Has.s (Has.s (Has.s (Has.s (Has.s (Has.s (Has.s (Has.s (Has.s (Has.s (Has.s (Has.s (Has.s (Has.s (Has.s (Has.s (Has.s Has.z))))))))))))))))))))) (a_cons (d_callP (t := c__law_draw M) (l_pool0, s72.2, (100 : Int)) G__law_draw q84 (Tak.perm Tak.z) (Tak.perm Tak.z).symm (a_cons (d_name (Has.s Has.z)) (a_cons d_int a_nil))) a_nil)))))))))) (fun s74 hk hz hp => ?_) (fun s74 hk hz hp => ?_)
                    · exact ds_ret0 (T := Bo false) hz.h d_bool rfl
                    · refine ds_next ?_
                      refine y_ite (t_gt (d_name (Has.s (Has.s Has.z))) d_int) hz hp (fun hk hz hp => ?_) (fun hk hz hp => ?_)
                      · exact ds_ret0 (T := Bo true) hz.h d_bool rfl
                      · refine ds_next ?_
                        obtain ⟨q83, hp⟩ := hp
                        refine y_asgS (R := I) (d := (((1 : Int) + (v__law_draw s74.2 (9 : Int)).1), (v__law_draw s74.2 (9 : Int)).2)) (fun w77 => [(l_pool0, Cl I w77)]) hz hp (d_add d_int (d_callP (t := c__law_draw M) (l_pool0, s74.2, (9 : Int)) G__law_draw q83 (Tak.perm Tak.z) (Tak.perm Tak.z).symm (a_cons (d_name (Has.s Has.z)) (a_cons d_int a_nil)))) (fun s76 hz hp => ⟨_, (Put.s (Put.s (Put.s (Put.s (Put.s (Put.s (Put.s (Put.s (Put.s (Put.s (Put.s (Put.s (Put.s (Put.s (Put.s (Put.s (Put.s (Put.s (Put.s (Put.s (Put.s Put.z))))))))))))))))))))), ?_⟩)
                        obtain ⟨q82, hp⟩ := hp
                        refine y_asgS (R := I) (d := ((v__law_draw s76.2 s76.1).1, (v__law_draw s76.2 s76.1).2)) (fun w79 => [(l_pool0, Cl I w79)]) hz hp (d_callP (t := c__law_draw M) (l_pool0, s76.2, s76.1) G__law_draw q82 (Tak.perm Tak.z) (Tak.perm Tak.z).symm (a_cons (d_name (Has.s Has.z)) (a_cons (d_name (Has.s (Has.s (Has.s (Has.s (Has.s (Has.s (Has.s (Has.s (Has.s (Has.s (Has.s (Has.s (Has.s (Has.s (Has.s (Has.s (Has.s (Has.s (Has.s (Has.s (Has.s Has.z)))))))))))))))))))))) a_nil))) (fun s78 hz hp => ⟨_, (Put.s (Put.s (Put.s (Put.s (Put.s (Put.s (Put.s (Put.s (Put.s (Put.s (Put.s (Put.s (Put.s (Put.s (Put.s (Put.s (Put.s (Put.s (Put.s (Put.s (Put.s (Put.s Put.z)))))))))))))))))))))), ?_⟩)
                        obtain ⟨q81, hp⟩ := hp
                        refine y_ite (t_notD (t_val (d_callQ (t := c__law_wholes_hold M) (names_21, s22.1, order_35, top_41, s76.1, s78.1) G__law_wholes_hold q81 (a_cons (d_name (Has.s (Has.s (Has.s (Has.s (Has.s Has.z)))))) (a_cons (d_name (Has.s (Has.s (Has.s (Has.s (Has.s (Has.s Has.z))))))) (a_cons (d_name (Has.s (Has.s (Has.s (Has.s (Has.s (Has.s (Has.s (Has.s (Has.s Has.z)))))))))) (a_cons (d_name (Has.s (Has.s (Has.s (Has.s (Has.s (Has.s (Has.s (Has.s (Has.s (Has.s (Has.s Has.z)))))))))))) (a_cons (d_name (Has.s (Has.s (Has.s (Has.s (Has.s (Has.s (Has.s (Has.s (Has.s (Has.s (Has.s (Has.s (Has.s (Has.s (Has.s (Has.s (Has.s (Has.s (Has.s (Has.s (Has.s Has.z)))))))))))))))))))))) (a_cons (d_name (Has.s (Has.s (Has.s (Has.s (Has.s (Has.s (Has.s (Has.s (Has.s (Has.s (Has.s (Has.s (Has.s (Has.s (Has.s (Has.s (Has.s (Has.s (Has.s (Has.s (Has.s (Has.s Has.z))))))))))))))))))))))) a_nil))))))))) hz hp (fun hk hz hp => ?_) (fun hk hz hp => ?_)
                        · exact ds_ret0 (T := Bo false) hz.h d_bool rfl
                        · refine ds_next ?_
                          obtain ⟨q80, hp⟩ := hp
                          exact ds_ret0 (T := Bo (v__law_wholes_hold names_21 s22.1 order_35 both_42 s76.1 s78.1)) hz.h (d_callQ (t := c__law_wholes_hold M) (names_21, s22.1, order_35, both_42, s76.1, s78.1) G__law_wholes_hold q80 (a_cons (d_name (Has.s (Has.s (Has.s (Has.s (Has.s Has.z)))))) (a_cons (d_name (Has.s (Has.s (Has.s (Has.s (Has.s (Has.s Has.z))))))) (a_cons (d_name (Has.s (Has.s (Has.s (Has.s (Has.s (Has.s (Has.s (Has.s (Has.s Has.z)))))))))) (a_cons (d_name (Has.s (Has.s (Has.s (Has.s (Has.s (Has.s (Has.s (Has.s (Has.s (Has.s (Has.s (Has.s Has.z))))))))))))) (a_cons (d_name (Has.s (Has.s (Has.s (Has.s (Has.s (Has.s (Has.s (Has.s (Has.s (Has.s (Has.s (Has.s (Has.s (Has.s (Has.s (Has.s (Has.s (Has.s (Has.s (Has.s (Has.s Has.z)))))))))))))))))))))) (a_cons (d_name (Has.s (Has.s (Has.s (Has.s (Has.s (Has.s (Has.s (Has.s (Has.s (Has.s (Has.s (Has.s (Has.s (Has.s (Has.s (Has.s (Has.s (Has.s (Has.s (Has.s (Has.s (Has.s Has.z))))))))))))))))))))))) a_nil))))))) rfl
end K24

set_option maxHeartbeats 2000000
/-! told and due -/
namespace K24
open PySem PySem.Spec PyProof.Rows L2 ZZ
open Evl (Ex)
local macro_rules | `(tactic| walk_at "has") => `(tactic| (with_reducible first | exact Has.z | exact Has.s Has.z | exact Has.s (Has.s Has.z) | exact Has.s (Has.s (Has.s Has.z)) | exact Has.s (Has.s (Has.s (Has.s Has.z))) | exact Has.s (Has.s (Has.s (Has.s (Has.s Has.z)))) | exact Has.s (Has.s (Has.s (Has.s (Has.s (Has.s Has.z))))) | exact Has.s (Has.s (Has.s (Has.s (Has.s (Has.s (Has.s Has.z))))))))
local macro_rules | `(tactic| walk_at "put") => `(tactic| (with_reducible first | exact Put.z | exact Put.s Put.z | exact Put.s (Put.s Put.z) | exact Put.s (Put.s (Put.s Put.z)) | exact Put.s (Put.s (Put.s (Put.s Put.z))) | exact Put.s (Put.s (Put.s (Put.s (Put.s Put.z)))) | exact Put.s (Put.s (Put.s (Put.s (Put.s (Put.s Put.z))))) | exact Put.s (Put.s (Put.s (Put.s (Put.s (Put.s (Put.s Put.z))))))))
local macro_rules | `(tactic| walk_at "swp") => `(tactic| (with_reducible first | exact Swp.z | exact Swp.s Swp.z | exact Swp.s (Swp.s Swp.z) | exact Swp.s (Swp.s (Swp.s Swp.z)) | exact Swp.s (Swp.s (Swp.s (Swp.s Swp.z))) | exact Swp.s (Swp.s (Swp.s (Swp.s (Swp.s Swp.z)))) | exact Swp.s (Swp.s (Swp.s (Swp.s (Swp.s (Swp.s Swp.z))))) | exact Swp.s (Swp.s (Swp.s (Swp.s (Swp.s (Swp.s (Swp.s Swp.z))))))))
local macro_rules | `(tactic| walk_at "tak") => `(tactic| (with_reducible first | exact Tak.z | exact Tak.s Tak.z | exact Tak.s (Tak.s Tak.z) | exact Tak.s (Tak.s (Tak.s Tak.z)) | exact Tak.s (Tak.s (Tak.s (Tak.s Tak.z))) | exact Tak.s (Tak.s (Tak.s (Tak.s (Tak.s Tak.z)))) | exact Tak.s (Tak.s (Tak.s (Tak.s (Tak.s (Tak.s Tak.z))))) | exact Tak.s (Tak.s (Tak.s (Tak.s (Tak.s (Tak.s (Tak.s Tak.z))))))))
local macro_rules | `(tactic| walk_at "hold") => `(tactic| (with_reducible first | exact Hold.z | exact Hold.s Hold.z | exact Hold.s (Hold.s Hold.z) | exact Hold.s (Hold.s (Hold.s Hold.z)) | exact Hold.s (Hold.s (Hold.s (Hold.s Hold.z))) | exact Hold.s (Hold.s (Hold.s (Hold.s (Hold.s Hold.z)))) | exact Hold.s (Hold.s (Hold.s (Hold.s (Hold.s (Hold.s Hold.z))))) | exact Hold.s (Hold.s (Hold.s (Hold.s (Hold.s (Hold.s (Hold.s Hold.z))))))))
local macro_rules | `(tactic| walk_at "upe") => `(tactic| (with_reducible first | exact UpE.z | exact UpE.s UpE.z | exact UpE.s (UpE.s UpE.z) | exact UpE.s (UpE.s (UpE.s UpE.z)) | exact UpE.s (UpE.s (UpE.s (UpE.s UpE.z))) | exact UpE.s (UpE.s (UpE.s (UpE.s (UpE.s UpE.z)))) | exact UpE.s (UpE.s (UpE.s (UpE.s (UpE.s (UpE.s UpE.z))))) | exact UpE.s (UpE.s (UpE.s (UpE.s (UpE.s (UpE.s (UpE.s UpE.z))))))))
local macro_rules | `(tactic| walk_at "fg") => `(tactic| (repeat (first | exact Fg.nil | (with_reducible refine Fg.keep rfl ?_) | (with_reducible refine Fg.drop ?_))))
local macro_rules | `(tactic| walk_at "nonb") => `(tactic| first | exact nonb_I | exact nonb_No | exact nonb_Bo | exact nonb_S | exact nonb_seq | exact nonb_tup)
local macro_rules | `(tactic| walk_at "istb") => `(tactic| first | exact istb_sc | exact istb_seq | exact istb_tup)

section
variable {M : Mo}
theorem okSc (Bl : Blt M) {D : Ends} {X : Cx} {B0 F0 : Hp} {k : Nat} {hot : Bool} (g : Sco) (hR : Rt B0 F0 D.rt (Bo true) []) : DS ⟨M, defScope (stm 38), k, true, hot⟩ X B0 F0 D (mkΓ nm__law_same [g.sh, g.sh]) [] (defBody (stm 38)) := by
  dsimp only [mkΓ]
  cases g with
  | non =>
    refine ds_ifT (t_isN (d_name (Has.s Has.z)) nonb_No) rfl ?_
    exact ds_ret0 hR (d_isN (d_name Has.z) nonb_No)
  | bl b =>
    refine ds_ifF (t_isN (d_name (Has.s Has.z)) nonb_Bo) rfl (ds_next ?_)
    cases b with
    | true =>
      refine ds_ifT (t_isT (d_name (Has.s Has.z)) istb_sc) rfl ?_
      exact ds_ret0 hR (d_isT (d_name Has.z) istb_sc)
    | false =>
      refine ds_ifF (t_isT (d_name (Has.s Has.z)) istb_sc) rfl (ds_next ?_)
      refine ds_ifT (t_isT (d_name (Has.s Has.z)) istb_sc) rfl ?_
      exact ds_ret0 hR (d_isT (d_name Has.z) istb_sc)
  | int i =>
    refine ds_ifF (t_isN (d_name (Has.s Has.z)) nonb_I) rfl (ds_next ?_)
    refine ds_ifF (t_isT (d_name (Has.s Has.z)) istb_sc) rfl (ds_next ?_)
    refine ds_ifF (t_isT (d_name (Has.s Has.z)) istb_sc) rfl (ds_next ?_)
    refine ds_ifF (t_val (d_isi (m := "tuple") (d_name (Has.s Has.z)) (fun K => ty_int) (by rfl) Bl.isinstance Bl.tuple (by decide +kernel))) rfl (ds_next ?_)
    refine ds_ifT (t_val (d_isi (m := "int") (d_name (Has.s Has.z)) (fun K => ty_int) (by rfl) Bl.isinstance Bl.int (by decide +kernel))) rfl ?_
    exact ds_ret0 hR (d_and (d_isi (m := "int") (d_name Has.z) (fun K => ty_int) (by rfl) Bl.isinstance Bl.int (by decide +kernel)) (fun _ => (d_and (d_not (d_isi (m := "bool") (d_name Has.z) (fun K => ty_int) (by rfl) Bl.isinstance Bl.bool (by decide +kernel))) (fun _ => (d_one (d_eqI (d_name Has.z) (d_name (Has.s Has.z)))))))) (by simp; exact congrArg Bo (by decide +kernel))
  | str s =>
    refine ds_ifF (t_isN (d_name (Has.s Has.z)) nonb_S) rfl (ds_next ?_)
    refine ds_ifF (t_isT (d_name (Has.s Has.z)) istb_sc) rfl (ds_next ?_)
    refine ds_ifF (t_isT (d_name (Has.s Has.z)) istb_sc) rfl (ds_next ?_)
    refine ds_ifF (t_val (d_isi (m := "tuple") (d_name (Has.s Has.z)) (fun K => ty_str) (by rfl) Bl.isinstance Bl.tuple (by decide +kernel))) rfl (ds_next ?_)
    refine ds_ifF (t_val (d_isi (m := "int") (d_name (Has.s Has.z)) (fun K => ty_str) (by rfl) Bl.isinstance Bl.int (by decide +kernel))) rfl (ds_next ?_)
    exact ds_ret0 hR (d_and (d_isi (m := "str") (d_name Has.z) (fun K => ty_str) (by rfl) Bl.isinstance Bl.str (by decide +kernel)) (fun _ => (d_one (d_eqS (d_name Has.z) (d_name (Has.s Has.z)))))) (by simp)
theorem okTc (Bl : Blt M) {D : Ends} {X : Cx} {B0 F0 : Hp} {n : Nat} (G : Gd M (n + 1) "_law_same" ["told", "due"] (same n)) (xs : List (Dt n)) (hR : Rt B0 F0 D.rt (Bo true) []) : DS ⟨M, defScope (stm 38), n + 1, true, false⟩ X B0 F0 D (mkΓ nm__law_same [Sq false (Dt.sh n) xs, Sq false (Dt.sh n) xs]) [] (defBody (stm 38)) := by
  dsimp only [mkΓ]
  refine ds_len (Has.z (x := "told")) fun hlen => ?_
  refine ds_ifF (t_isN (d_name (Has.s Has.z)) nonb_seq) rfl (ds_next ?_)
  refine ds_ifF (t_isT (d_name (Has.s Has.z)) istb_seq) rfl (ds_next ?_)
  refine ds_ifF (t_isT (d_name (Has.s Has.z)) istb_seq) rfl (ds_next ?_)
  refine ds_ifT (t_val (d_isi (m := "tuple") (d_name (Has.s Has.z)) (fun K => ty_tup) (by rfl) Bl.isinstance Bl.tuple (by decide +kernel))) rfl ?_
  refine ds_ifF (t_w (v_or (k := false) (l := false) (DT.eqB (t_notD (t_val (d_isi (m := "tuple") (d_name Has.z) (fun K => ty_tup) (by rfl) Bl.isinstance Bl.tuple (by decide +kernel)))) rfl) (fun _ => v_or1 (DT.eqB (t_neI (d_len (d_name Has.z) Bl.len) (d_len (d_name (Has.s Has.z)) Bl.len)) (by simp))))) rfl (ds_next ?_)
  refine ds_forF (fun i => ([("told", some (Sq false (Dt.sh n) xs)), ("due", some (Sq false (Dt.sh n) xs)), ("k", none)] : En)) (fun i => []) (i_rng1 (d_len (d_name (Has.s Has.z)) Bl.len) Bl.range) (by walk_at "fg") rfl ?_ ?_
  · rintro B1 hB1 i _ hi rfl
    have hR := hR.mono hB1
    have hi : i < xs.length := by omega
    obtain ⟨y, hy⟩ : ∃ y, xs[i]? = some y := ⟨_, List.getElem?_eq_getElem hi⟩
    refine ⟨_, _, (g_name (Put.s (Put.s Put.z))), ?_⟩
    refine ds_ifF (t_notD (t_val ((d_call0 (t := same n) y G (Nat.le_refl _) (a_cons (d_ix (d_name Has.z) (d_name (Has.s (Has.s Has.z))) (atI_of rfl hy)) (a_cons (d_ix (d_name (Has.s Has.z)) (d_name (Has.s (Has.s Has.z))) (atI_of rfl hy)) a_nil)) rfl trivial rfl rfl)))) rfl (ds_next ?_)
    exact ds_turnF (by walk_at "fg") rfl rfl rfl
  · exact ds_ret0 hR d_bool
theorem okTh (Bl : Blt M) {D : Ends} {X : Cx} {B0 F0 : Hp} {n : Nat} (G : Gh M (n + 1) "_law_same" ["told", "due"] (same n)) (xs : List (Dt n)) (hR : Rt B0 F0 D.rt (Bo true) []) : DS ⟨M, defScope (stm 38), n + 1, true, true⟩ X B0 F0 D (mkΓ nm__law_same [Sq false (Dt.sh n) xs, Sq false (Dt.sh n) xs]) [] (defBody (stm 38)) := by
  dsimp only [mkΓ]
  refine ds_len (Has.z (x := "told")) fun hlen => ?_
  refine ds_ifF (t_isN (d_name (Has.s Has.z)) nonb_seq) rfl (ds_next ?_)
  refine ds_ifF (t_isT (d_name (Has.s Has.z)) istb_seq) rfl (ds_next ?_)
  refine ds_ifF (t_isT (d_name (Has.s Has.z)) istb_seq) rfl (ds_next ?_)
  refine ds_ifT (t_val (d_isi (m := "tuple") (d_name (Has.s Has.z)) (fun K => ty_tup) (by rfl) Bl.isinstance Bl.tuple (by decide +kernel))) rfl ?_
  refine ds_ifF (t_w (v_or (k := false) (l := false) (DT.eqB (t_notD (t_val (d_isi (m := "tuple") (d_name Has.z) (fun K => ty_tup) (by rfl) Bl.isinstance Bl.tuple (by decide +kernel)))) rfl) (fun _ => v_or1 (DT.eqB (t_neI (d_len (d_name Has.z) Bl.len) (d_len (d_name (Has.s Has.z)) Bl.len)) (by simp))))) rfl (ds_next ?_)
  refine ds_forFH rfl (fun i => ([("told", some (Sq false (Dt.sh n) xs)), ("due", some (Sq false (Dt.sh n) xs)), ("k", none)] : En)) (fun i => []) (i_rng1H (d_len (d_name (Has.s Has.z)) Bl.len) Bl.range) (by walk_at "fg") rfl ?_ ?_
  · rintro B1 hB1 i _ hi rfl
    have hR := hR.mono hB1
    have hi : i < xs.length := by omega
    obtain ⟨y, hy⟩ : ∃ y, xs[i]? = some y := ⟨_, List.getElem?_eq_getElem hi⟩
    refine ⟨_, _, (g_name (Put.s (Put.s Put.z))), ?_⟩
    refine ds_ifF (t_notD (t_val (d_callH (t := same n) rfl y G (Nat.le_refl _) (a_cons (d_ix (d_name Has.z) (d_name (Has.s (Has.s Has.z))) (atI_of rfl hy)) (a_cons (d_ix (d_name (Has.s Has.z)) (d_name (Has.s (Has.s Has.z))) (atI_of rfl hy)) a_nil)) rfl trivial))) rfl (ds_next ?_)
    exact ds_turnF (by walk_at "fg") rfl rfl rfl
  · exact ds_ret0 hR d_bool
theorem okSame (Bl : Blt M) (P : Pr M "_law_same" (stm 38) ["told", "due"]) : ∀ n, Gd M (n + 1) "_law_same" ["told", "due"] (same n)
  | 0 => P.gd sc__law_same (by intro _; rfl) fun X B0 F0 D g hp hR hN => okSc Bl g hR
  | n + 1 => P.gd sc__law_same (by intro _; rfl) fun X B0 F0 D g hp hR hN => by
    cases g with
    | inl g => exact okSc Bl g hR
    | inr xs => exact okTc Bl (okSame Bl P n) xs hR
theorem okSameH (Bl : Blt M) (P : Pr M "_law_same" (stm 38) ["told", "due"]) : ∀ n, Gh M (n + 1) "_law_same" ["told", "due"] (same n)
  | 0 => P.gh sc__law_same (by intro _; rfl) fun X B0 F0 D g hp hR hN => okSc Bl g hR
  | n + 1 => P.gh sc__law_same (by intro _; rfl) fun X B0 F0 D g hp hR hN => by
    cases g with
    | inl g => exact okSc Bl g hR
    | inr xs => exact okTh Bl (okSameH Bl P n) xs hR
theorem g_same (Bl : Blt M) (P : Pr M "_law_same" (stm 38) ["told", "due"]) : Gsame M := okSame Bl P 4
theorem g_sameH (Bl : Blt M) (P : Pr M "_law_same" (stm 38) ["told", "due"]) : GsameH M := okSameH Bl P 4
end
end K24

set_option maxHeartbeats 2000000
namespace K24
open PySem PySem.Spec PyProof.Rows L2 ZZ
open Evl (Ex)
theorem law_pull {M : Mo} {k : Nat} {f : Addr} {fd : FuncData} (hm : ∀ ns : List Int, ns.length ≤ 63 → o_law ns ∧ v_law ns = true) (h : FnOk M.P M.w M.K M.mg M.base CX0 k f fd ["script"] (c_law M).sp) : FnOk M.P M.w M.K M.mg M.base CX0 k f fd ["script"] (lawC M.K 63).sp := h.imp fun vs H Q E z => by
  obtain ⟨g, F, B, z1, z2, z3, z4⟩ := z
  refine ⟨g, F, B, (hm g z1).1, z2, z3, fun v B' H' e O p => z4 v B' H' e O ?_⟩
  have p : (Bo (v_law g)).p B' v := p
  rw [(hm g z1).2] at p
  exact p
def stI : Stmt := match stm 3 with | .ClassDef _ _ _ b _ _ _ _ _ _ _ => b.getD 0 (.Pass ⟨0, 0, 0, 0⟩) | s => s
/-! ### what the top has written; the law's own head -/
theorem all_mk {l : PySem.W.OpenLaw} {w : World} {K : PySem.W.Frag} {h : Heap} {mg : Str → Option Value} {fa : Addr} (X : K.In h) (G : h.Ns mainGlobals mg) (hfa : mg "law" = some (.ref fa))
    {f6 : Addr} {od6 an6 : Option Addr} {sl6 : Array (Option Value)} {oc6 kV6 dc6 pm6 cd6 ct6 : Value}
    (a6 : PySem.W.nsIn K mainGlobals "by_value" = some (some (.ref f6))) (l6 : K.lookup f6 = some ⟨oc6, od6, .func (PySem.W.fnOf "by_value" "by_value" (defArgs (stm 6)) (defBody (stm 6)) (defScope (stm 6)) .none kV6 dc6 pm6 an6 cd6 ct6), sl6⟩) (c6 : PySem.W.codeIn K cd6 "by_value" = true) (k6 : PySem.W.keepIn K (.ref f6) = true)
    {f7 : Addr} {od7 an7 : Option Addr} {sl7 : Array (Option Value)} {oc7 kV7 dc7 pm7 cd7 ct7 : Value}
    (a7 : PySem.W.nsIn K mainGlobals "beginning" = some (some (.ref f7))) (l7 : K.lookup f7 = some ⟨oc7, od7, .func (PySem.W.fnOf "beginning" "beginning" (defArgs (stm 7)) (defBody (stm 7)) (defScope (stm 7)) .none kV7 dc7 pm7 an7 cd7 ct7), sl7⟩) (c7 : PySem.W.codeIn K cd7 "beginning" = true) (k7 : PySem.W.keepIn K (.ref f7) = true)
    {f8 : Addr} {od8 an8 : Option Addr} {sl8 : Array (Option Value)} {oc8 kV8 dc8 pm8 cd8 ct8 : Value}
    (a8 : PySem.W.nsIn K mainGlobals "classes" = some (some (.ref f8))) (l8 : K.lookup f8 = some ⟨oc8, od8, .func (PySem.W.fnOf "classes" "classes" (defArgs (stm 8)) (defBody (stm 8)) (defScope (stm 8)) .none kV8 dc8 pm8 an8 cd8 ct8), sl8⟩) (c8 : PySem.W.codeIn K cd8 "classes" = true) (k8 : PySem.W.keepIn K (.ref f8) = true)
    {f9 : Addr} {od9 an9 : Option Addr} {sl9 : Array (Option Value)} {oc9 kV9 dc9 pm9 cd9 ct9 : Value}
    (a9 : PySem.W.nsIn K mainGlobals "rests" = some (some (.ref f9))) (l9 : K.lookup f9 = some ⟨oc9, od9, .func (PySem.W.fnOf "rests" "rests" (defArgs (stm 9)) (defBody (stm 9)) (defScope (stm 9)) .none kV9 dc9 pm9 an9 cd9 ct9), sl9⟩) (c9 : PySem.W.codeIn K cd9 "rests" = true) (k9 : PySem.W.keepIn K (.ref f9) = true)
    {f10 : Addr} {od10 an10 : Option Addr} {sl10 : Array (Option Value)} {oc10 kV10 dc10 pm10 cd10 ct10 : Value}
    (a10 : PySem.W.nsIn K mainGlobals "count_plan" = some (some (.ref f10))) (l10 : K.lookup f10 = some ⟨oc10, od10, .func (PySem.W.fnOf "count_plan" "count_plan" (defArgs (stm 10)) (defBody (stm 10)) (defScope (stm 10)) .none kV10 dc10 pm10 an10 cd10 ct10), sl10⟩) (c10 : PySem.W.codeIn K cd10 "count_plan" = true) (k10 : PySem.W.keepIn K (.ref f10) = true)
    {f11 : Addr} {od11 an11 : Option Addr} {sl11 : Array (Option Value)} {oc11 kV11 dc11 pm11 cd11 ct11 : Value}
    (a11 : PySem.W.nsIn K mainGlobals "loads" = some (some (.ref f11))) (l11 : K.lookup f11 = some ⟨oc11, od11, .func (PySem.W.fnOf "loads" "loads" (defArgs (stm 11)) (defBody (stm 11)) (defScope (stm 11)) .none kV11 dc11 pm11 an11 cd11 ct11), sl11⟩) (c11 : PySem.W.codeIn K cd11 "loads" = true) (k11 : PySem.W.keepIn K (.ref f11) = true)
    {f12 : Addr} {od12 an12 : Option Addr} {sl12 : Array (Option Value)} {oc12 kV12 dc12 pm12 cd12 ct12 : Value}
    (a12 : PySem.W.nsIn K mainGlobals "next_count" = some (some (.ref f12))) (l12 : K.lookup f12 = some ⟨oc12, od12, .func (PySem.W.fnOf "next_count" "next_count" (defArgs (stm 12)) (defBody (stm 12)) (defScope (stm 12)) .none kV12 dc12 pm12 an12 cd12 ct12), sl12⟩) (c12 : PySem.W.codeIn K cd12 "next_count" = true) (k12 : PySem.W.keepIn K (.ref f12) = true)
    {f14 : Addr} {od14 an14 : Option Addr} {sl14 : Array (Option Value)} {oc14 kV14 dc14 pm14 cd14 ct14 : Value}
    (a14 : PySem.W.nsIn K mainGlobals "wanting" = some (some (.ref f14))) (l14 : K.lookup f14 = some ⟨oc14, od14, .func (PySem.W.fnOf "wanting" "wanting" (defArgs (stm 14)) (defBody (stm 14)) (defScope (stm 14)) .none kV14 dc14 pm14 an14 cd14 ct14), sl14⟩) (c14 : PySem.W.codeIn K cd14 "wanting" = true) (k14 : PySem.W.keepIn K (.ref f14) = true)
    {f15 : Addr} {od15 an15 : Option Addr} {sl15 : Array (Option Value)} {oc15 kV15 dc15 pm15 cd15 ct15 : Value}
    (a15 : PySem.W.nsIn K mainGlobals "poured" = some (some (.ref f15))) (l15 : K.lookup f15 = some ⟨oc15, od15, .func (PySem.W.fnOf "poured" "poured" (defArgs (stm 15)) (defBody (stm 15)) (defScope (stm 15)) .none kV15 dc15 pm15 an15 cd15 ct15), sl15⟩) (c15 : PySem.W.codeIn K cd15 "poured" = true) (k15 : PySem.W.keepIn K (.ref f15) = true)
    {f16 : Addr} {od16 an16 : Option Addr} {sl16 : Array (Option Value)} {oc16 kV16 dc16 pm16 cd16 ct16 : Value}
    (a16 : PySem.W.nsIn K mainGlobals "height_of" = some (some (.ref f16))) (l16 : K.lookup f16 = some ⟨oc16, od16, .func (PySem.W.fnOf "height_of" "height_of" (defArgs (stm 16)) (defBody (stm 16)) (defScope (stm 16)) .none kV16 dc16 pm16 an16 cd16 ct16), sl16⟩) (c16 : PySem.W.codeIn K cd16 "height_of" = true) (k16 : PySem.W.keepIn K (.ref f16) = true)
    {f17 : Addr} {od17 an17 : Option Addr} {sl17 : Array (Option Value)} {oc17 kV17 dc17 pm17 cd17 ct17 : Value}
    (a17 : PySem.W.nsIn K mainGlobals "fair_shares" = some (some (.ref f17))) (l17 : K.lookup f17 = some ⟨oc17, od17, .func (PySem.W.fnOf "fair_shares" "fair_shares" (defArgs (stm 17)) (defBody (stm 17)) (defScope (stm 17)) .none kV17 dc17 pm17 an17 cd17 ct17), sl17⟩) (c17 : PySem.W.codeIn K cd17 "fair_shares" = true) (k17 : PySem.W.keepIn K (.ref f17) = true)
    {f18 : Addr} {od18 an18 : Option Addr} {sl18 : Array (Option Value)} {oc18 kV18 dc18 pm18 cd18 ct18 : Value}
    (a18 : PySem.W.nsIn K mainGlobals "unserved" = some (some (.ref f18))) (l18 : K.lookup f18 = some ⟨oc18, od18, .func (PySem.W.fnOf "unserved" "unserved" (defArgs (stm 18)) (defBody (stm 18)) (defScope (stm 18)) .none kV18 dc18 pm18 an18 cd18 ct18), sl18⟩) (c18 : PySem.W.codeIn K cd18 "unserved" = true) (k18 : PySem.W.keepIn K (.ref f18) = true)
    {f19 : Addr} {od19 an19 : Option Addr} {sl19 : Array (Option Value)} {oc19 kV19 dc19 pm19 cd19 ct19 : Value}
    (a19 : PySem.W.nsIn K mainGlobals "level" = some (some (.ref f19))) (l19 : K.lookup f19 = some ⟨oc19, od19, .func (PySem.W.fnOf "level" "level" (defArgs (stm 19)) (defBody (stm 19)) (defScope (stm 19)) .none kV19 dc19 pm19 an19 cd19 ct19), sl19⟩) (c19 : PySem.W.codeIn K cd19 "level" = true) (k19 : PySem.W.keepIn K (.ref f19) = true)
    {f20 : Addr} {od20 an20 : Option Addr} {sl20 : Array (Option Value)} {oc20 kV20 dc20 pm20 cd20 ct20 : Value}
    (a20 : PySem.W.nsIn K mainGlobals "rounds_of" = some (some (.ref f20))) (l20 : K.lookup f20 = some ⟨oc20, od20, .func (PySem.W.fnOf "rounds_of" "rounds_of" (defArgs (stm 20)) (defBody (stm 20)) (defScope (stm 20)) .none kV20 dc20 pm20 an20 cd20 ct20), sl20⟩) (c20 : PySem.W.codeIn K cd20 "rounds_of" = true) (k20 : PySem.W.keepIn K (.ref f20) = true)
    {f21 : Addr} {od21 an21 : Option Addr} {sl21 : Array (Option Value)} {oc21 kV21 dc21 pm21 cd21 ct21 : Value}
    (a21 : PySem.W.nsIn K mainGlobals "fair_steps" = some (some (.ref f21))) (l21 : K.lookup f21 = some ⟨oc21, od21, .func (PySem.W.fnOf "fair_steps" "fair_steps" (defArgs (stm 21)) (defBody (stm 21)) (defScope (stm 21)) .none kV21 dc21 pm21 an21 cd21 ct21), sl21⟩) (c21 : PySem.W.codeIn K cd21 "fair_steps" = true) (k21 : PySem.W.keepIn K (.ref f21) = true)
    {f23 : Addr} {od23 an23 : Option Addr} {sl23 : Array (Option Value)} {oc23 kV23 dc23 pm23 cd23 ct23 : Value}
    (a23 : PySem.W.nsIn K mainGlobals "pieces_there" = some (some (.ref f23))) (l23 : K.lookup f23 = some ⟨oc23, od23, .func (PySem.W.fnOf "pieces_there" "pieces_there" (defArgs (stm 23)) (defBody (stm 23)) (defScope (stm 23)) .none kV23 dc23 pm23 an23 cd23 ct23), sl23⟩) (c23 : PySem.W.codeIn K cd23 "pieces_there" = true) (k23 : PySem.W.keepIn K (.ref f23) = true)
    {f24 : Addr} {od24 an24 : Option Addr} {sl24 : Array (Option Value)} {oc24 kV24 dc24 pm24 cd24 ct24 : Value}
    (a24 : PySem.W.nsIn K mainGlobals "pieces_needed" = some (some (.ref f24))) (l24 : K.lookup f24 = some ⟨oc24, od24, .func (PySem.W.fnOf "pieces_needed" "pieces_needed" (defArgs (stm 24)) (defBody (stm 24)) (defScope (stm 24)) .none kV24 dc24 pm24 an24 cd24 ct24), sl24⟩) (c24 : PySem.W.codeIn K cd24 "pieces_needed" = true) (k24 : PySem.W.keepIn K (.ref f24) = true)
    {f25 : Addr} {od25 an25 : Option Addr} {sl25 : Array (Option Value)} {oc25 kV25 dc25 pm25 cd25 ct25 : Value}
    (a25 : PySem.W.nsIn K mainGlobals "too_few" = some (some (.ref f25))) (l25 : K.lookup f25 = some ⟨oc25, od25, .func (PySem.W.fnOf "too_few" "too_few" (defArgs (stm 25)) (defBody (stm 25)) (defScope (stm 25)) .none kV25 dc25 pm25 an25 cd25 ct25), sl25⟩) (c25 : PySem.W.codeIn K cd25 "too_few" = true) (k25 : PySem.W.keepIn K (.ref f25) = true)
    {f26 : Addr} {od26 an26 : Option Addr} {sl26 : Array (Option Value)} {oc26 kV26 dc26 pm26 cd26 ct26 : Value}
    (a26 : PySem.W.nsIn K mainGlobals "fits" = some (some (.ref f26))) (l26 : K.lookup f26 = some ⟨oc26, od26, .func (PySem.W.fnOf "fits" "fits" (defArgs (stm 26)) (defBody (stm 26)) (defScope (stm 26)) .none kV26 dc26 pm26 an26 cd26 ct26), sl26⟩) (c26 : PySem.W.codeIn K cd26 "fits" = true) (k26 : PySem.W.keepIn K (.ref f26) = true)
    {f27 : Addr} {od27 an27 : Option Addr} {sl27 : Array (Option Value)} {oc27 kV27 dc27 pm27 cd27 ct27 : Value}
    (a27 : PySem.W.nsIn K mainGlobals "later_places" = some (some (.ref f27))) (l27 : K.lookup f27 = some ⟨oc27, od27, .func (PySem.W.fnOf "later_places" "later_places" (defArgs (stm 27)) (defBody (stm 27)) (defScope (stm 27)) .none kV27 dc27 pm27 an27 cd27 ct27), sl27⟩) (c27 : PySem.W.codeIn K cd27 "later_places" = true) (k27 : PySem.W.keepIn K (.ref f27) = true)
    {f28 : Addr} {od28 an28 : Option Addr} {sl28 : Array (Option Value)} {oc28 kV28 dc28 pm28 cd28 ct28 : Value}
    (a28 : PySem.W.nsIn K mainGlobals "sets_from" = some (some (.ref f28))) (l28 : K.lookup f28 = some ⟨oc28, od28, .func (PySem.W.fnOf "sets_from" "sets_from" (defArgs (stm 28)) (defBody (stm 28)) (defScope (stm 28)) .none kV28 dc28 pm28 an28 cd28 ct28), sl28⟩) (c28 : PySem.W.codeIn K cd28 "sets_from" = true) (k28 : PySem.W.keepIn K (.ref f28) = true)
    {f29 : Addr} {od29 an29 : Option Addr} {sl29 : Array (Option Value)} {oc29 kV29 dc29 pm29 cd29 ct29 : Value}
    (a29 : PySem.W.nsIn K mainGlobals "fitting_sets" = some (some (.ref f29))) (l29 : K.lookup f29 = some ⟨oc29, od29, .func (PySem.W.fnOf "fitting_sets" "fitting_sets" (defArgs (stm 29)) (defBody (stm 29)) (defScope (stm 29)) .none kV29 dc29 pm29 an29 cd29 ct29), sl29⟩) (c29 : PySem.W.codeIn K cd29 "fitting_sets" = true) (k29 : PySem.W.keepIn K (.ref f29) = true)
    {f30 : Addr} {od30 an30 : Option Addr} {sl30 : Array (Option Value)} {oc30 kV30 dc30 pm30 cd30 ct30 : Value}
    (a30 : PySem.W.nsIn K mainGlobals "first_of_best" = some (some (.ref f30))) (l30 : K.lookup f30 = some ⟨oc30, od30, .func (PySem.W.fnOf "first_of_best" "first_of_best" (defArgs (stm 30)) (defBody (stm 30)) (defScope (stm 30)) .none kV30 dc30 pm30 an30 cd30 ct30), sl30⟩) (c30 : PySem.W.codeIn K cd30 "first_of_best" = true) (k30 : PySem.W.keepIn K (.ref f30) = true)
    {f31 : Addr} {od31 an31 : Option Addr} {sl31 : Array (Option Value)} {oc31 kV31 dc31 pm31 cd31 ct31 : Value}
    (a31 : PySem.W.nsIn K mainGlobals "most_whole" = some (some (.ref f31))) (l31 : K.lookup f31 = some ⟨oc31, od31, .func (PySem.W.fnOf "most_whole" "most_whole" (defArgs (stm 31)) (defBody (stm 31)) (defScope (stm 31)) .none kV31 dc31 pm31 an31 cd31 ct31), sl31⟩) (c31 : PySem.W.codeIn K cd31 "most_whole" = true) (k31 : PySem.W.keepIn K (.ref f31) = true)
    {f32 : Addr} {od32 an32 : Option Addr} {sl32 : Array (Option Value)} {oc32 kV32 dc32 pm32 cd32 ct32 : Value}
    (a32 : PySem.W.nsIn K mainGlobals "value_of" = some (some (.ref f32))) (l32 : K.lookup f32 = some ⟨oc32, od32, .func (PySem.W.fnOf "value_of" "value_of" (defArgs (stm 32)) (defBody (stm 32)) (defScope (stm 32)) .none kV32 dc32 pm32 an32 cd32 ct32), sl32⟩) (c32 : PySem.W.codeIn K cd32 "value_of" = true) (k32 : PySem.W.keepIn K (.ref f32) = true)
    {f33 : Addr} {od33 an33 : Option Addr} {sl33 : Array (Option Value)} {oc33 kV33 dc33 pm33 cd33 ct33 : Value}
    (a33 : PySem.W.nsIn K mainGlobals "best_value" = some (some (.ref f33))) (l33 : K.lookup f33 = some ⟨oc33, od33, .func (PySem.W.fnOf "best_value" "best_value" (defArgs (stm 33)) (defBody (stm 33)) (defScope (stm 33)) .none kV33 dc33 pm33 an33 cd33 ct33), sl33⟩) (c33 : PySem.W.codeIn K cd33 "best_value" = true) (k33 : PySem.W.keepIn K (.ref f33) = true)
    {f34 : Addr} {od34 an34 : Option Addr} {sl34 : Array (Option Value)} {oc34 kV34 dc34 pm34 cd34 ct34 : Value}
    (a34 : PySem.W.nsIn K mainGlobals "blocking" = some (some (.ref f34))) (l34 : K.lookup f34 = some ⟨oc34, od34, .func (PySem.W.fnOf "blocking" "blocking" (defArgs (stm 34)) (defBody (stm 34)) (defScope (stm 34)) .none kV34 dc34 pm34 an34 cd34 ct34), sl34⟩) (c34 : PySem.W.codeIn K cd34 "blocking" = true) (k34 : PySem.W.keepIn K (.ref f34) = true)
    {f36 : Addr} {od36 an36 : Option Addr} {sl36 : Array (Option Value)} {oc36 kV36 dc36 pm36 cd36 ct36 : Value}
    (a36 : PySem.W.nsIn K mainGlobals "_law_pool" = some (some (.ref f36))) (l36 : K.lookup f36 = some ⟨oc36, od36, .func (PySem.W.fnOf "_law_pool" "_law_pool" (defArgs (stm 36)) (defBody (stm 36)) (defScope (stm 36)) .none kV36 dc36 pm36 an36 cd36 ct36), sl36⟩) (c36 : PySem.W.codeIn K cd36 "_law_pool" = true) (k36 : PySem.W.keepIn K (.ref f36) = true)
    {f37 : Addr} {od37 an37 : Option Addr} {sl37 : Array (Option Value)} {oc37 kV37 dc37 pm37 cd37 ct37 : Value}
    (a37 : PySem.W.nsIn K mainGlobals "_law_draw" = some (some (.ref f37))) (l37 : K.lookup f37 = some ⟨oc37, od37, .func (PySem.W.fnOf "_law_draw" "_law_draw" (defArgs (stm 37)) (defBody (stm 37)) (defScope (stm 37)) .none kV37 dc37 pm37 an37 cd37 ct37), sl37⟩) (c37 : PySem.W.codeIn K cd37 "_law_draw" = true) (k37 : PySem.W.keepIn K (.ref f37) = true)
    {f38 : Addr} {od38 an38 : Option Addr} {sl38 : Array (Option Value)} {oc38 kV38 dc38 pm38 cd38 ct38 : Value}
    (a38 : PySem.W.nsIn K mainGlobals "_law_same" = some (some (.ref f38))) (l38 : K.lookup f38 = some ⟨oc38, od38, .func (PySem.W.fnOf "_law_same" "_law_same" (defArgs (stm 38)) (defBody (stm 38)) (defScope (stm 38)) .none kV38 dc38 pm38 an38 cd38 ct38), sl38⟩) (c38 : PySem.W.codeIn K cd38 "_law_same" = true) (k38 : PySem.W.keepIn K (.ref f38) = true)
    {f39 : Addr} {od39 an39 : Option Addr} {sl39 : Array (Option Value)} {oc39 kV39 dc39 pm39 cd39 ct39 : Value}
    (a39 : PySem.W.nsIn K mainGlobals "_law_word" = some (some (.ref f39))) (l39 : K.lookup f39 = some ⟨oc39, od39, .func (PySem.W.fnOf "_law_word" "_law_word" (defArgs (stm 39)) (defBody (stm 39)) (defScope (stm 39)) .none kV39 dc39 pm39 an39 cd39 ct39), sl39⟩) (c39 : PySem.W.codeIn K cd39 "_law_word" = true) (k39 : PySem.W.keepIn K (.ref f39) = true)
    {f40 : Addr} {od40 an40 : Option Addr} {sl40 : Array (Option Value)} {oc40 kV40 dc40 pm40 cd40 ct40 : Value}
    (a40 : PySem.W.nsIn K mainGlobals "_law_values" = some (some (.ref f40))) (l40 : K.lookup f40 = some ⟨oc40, od40, .func (PySem.W.fnOf "_law_values" "_law_values" (defArgs (stm 40)) (defBody (stm 40)) (defScope (stm 40)) .none kV40 dc40 pm40 an40 cd40 ct40), sl40⟩) (c40 : PySem.W.codeIn K cd40 "_law_values" = true) (k40 : PySem.W.keepIn K (.ref f40) = true)
    {f41 : Addr} {od41 an41 : Option Addr} {sl41 : Array (Option Value)} {oc41 kV41 dc41 pm41 cd41 ct41 : Value}
    (a41 : PySem.W.nsIn K mainGlobals "_law_falling" = some (some (.ref f41))) (l41 : K.lookup f41 = some ⟨oc41, od41, .func (PySem.W.fnOf "_law_falling" "_law_falling" (defArgs (stm 41)) (defBody (stm 41)) (defScope (stm 41)) .none kV41 dc41 pm41 an41 cd41 ct41), sl41⟩) (c41 : PySem.W.codeIn K cd41 "_law_falling" = true) (k41 : PySem.W.keepIn K (.ref f41) = true)
    {f42 : Addr} {od42 an42 : Option Addr} {sl42 : Array (Option Value)} {oc42 kV42 dc42 pm42 cd42 ct42 : Value}
    (a42 : PySem.W.nsIn K mainGlobals "_law_beginning" = some (some (.ref f42))) (l42 : K.lookup f42 = some ⟨oc42, od42, .func (PySem.W.fnOf "_law_beginning" "_law_beginning" (defArgs (stm 42)) (defBody (stm 42)) (defScope (stm 42)) .none kV42 dc42 pm42 an42 cd42 ct42), sl42⟩) (c42 : PySem.W.codeIn K cd42 "_law_beginning" = true) (k42 : PySem.W.keepIn K (.ref f42) = true)
    {f43 : Addr} {od43 an43 : Option Addr} {sl43 : Array (Option Value)} {oc43 kV43 dc43 pm43 cd43 ct43 : Value}
    (a43 : PySem.W.nsIn K mainGlobals "_law_percent" = some (some (.ref f43))) (l43 : K.lookup f43 = some ⟨oc43, od43, .func (PySem.W.fnOf "_law_percent" "_law_percent" (defArgs (stm 43)) (defBody (stm 43)) (defScope (stm 43)) .none kV43 dc43 pm43 an43 cd43 ct43), sl43⟩) (c43 : PySem.W.codeIn K cd43 "_law_percent" = true) (k43 : PySem.W.keepIn K (.ref f43) = true)
    {f44 : Addr} {od44 an44 : Option Addr} {sl44 : Array (Option Value)} {oc44 kV44 dc44 pm44 cd44 ct44 : Value}
    (a44 : PySem.W.nsIn K mainGlobals "_law_rests" = some (some (.ref f44))) (l44 : K.lookup f44 = some ⟨oc44, od44, .func (PySem.W.fnOf "_law_rests" "_law_rests" (defArgs (stm 44)) (defBody (stm 44)) (defScope (stm 44)) .none kV44 dc44 pm44 an44 cd44 ct44), sl44⟩) (c44 : PySem.W.codeIn K cd44 "_law_rests" = true) (k44 : PySem.W.keepIn K (.ref f44) = true)
    {f45 : Addr} {od45 an45 : Option Addr} {sl45 : Array (Option Value)} {oc45 kV45 dc45 pm45 cd45 ct45 : Value}
    (a45 : PySem.W.nsIn K mainGlobals "_law_plan" = some (some (.ref f45))) (l45 : K.lookup f45 = some ⟨oc45, od45, .func (PySem.W.fnOf "_law_plan" "_law_plan" (defArgs (stm 45)) (defBody (stm 45)) (defScope (stm 45)) .none kV45 dc45 pm45 an45 cd45 ct45), sl45⟩) (c45 : PySem.W.codeIn K cd45 "_law_plan" = true) (k45 : PySem.W.keepIn K (.ref f45) = true)
    {f46 : Addr} {od46 an46 : Option Addr} {sl46 : Array (Option Value)} {oc46 kV46 dc46 pm46 cd46 ct46 : Value}
    (a46 : PySem.W.nsIn K mainGlobals "_law_classes_hold" = some (some (.ref f46))) (l46 : K.lookup f46 = some ⟨oc46, od46, .func (PySem.W.fnOf "_law_classes_hold" "_law_classes_hold" (defArgs (stm 46)) (defBody (stm 46)) (defScope (stm 46)) .none kV46 dc46 pm46 an46 cd46 ct46), sl46⟩) (c46 : PySem.W.codeIn K cd46 "_law_classes_hold" = true) (k46 : PySem.W.keepIn K (.ref f46) = true)
    {f47 : Addr} {od47 an47 : Option Addr} {sl47 : Array (Option Value)} {oc47 kV47 dc47 pm47 cd47 ct47 : Value}
    (a47 : PySem.W.nsIn K mainGlobals "_law_shares_hold" = some (some (.ref f47))) (l47 : K.lookup f47 = some ⟨oc47, od47, .func (PySem.W.fnOf "_law_shares_hold" "_law_shares_hold" (defArgs (stm 47)) (defBody (stm 47)) (defScope (stm 47)) .none kV47 dc47 pm47 an47 cd47 ct47), sl47⟩) (c47 : PySem.W.codeIn K cd47 "_law_shares_hold" = true) (k47 : PySem.W.keepIn K (.ref f47) = true)
    {f48 : Addr} {od48 an48 : Option Addr} {sl48 : Array (Option Value)} {oc48 kV48 dc48 pm48 cd48 ct48 : Value}
    (a48 : PySem.W.nsIn K mainGlobals "_law_wholes_hold" = some (some (.ref f48))) (l48 : K.lookup f48 = some ⟨oc48, od48, .func (PySem.W.fnOf "_law_wholes_hold" "_law_wholes_hold" (defArgs (stm 48)) (defBody (stm 48)) (defScope (stm 48)) .none kV48 dc48 pm48 an48 cd48 ct48), sl48⟩) (c48 : PySem.W.codeIn K cd48 "_law_wholes_hold" = true) (k48 : PySem.W.keepIn K (.ref f48) = true)
    {f49 : Addr} {od49 an49 : Option Addr} {sl49 : Array (Option Value)} {oc49 kV49 dc49 pm49 cd49 ct49 : Value}
    (a49 : PySem.W.nsIn K mainGlobals "_law_next_holds" = some (some (.ref f49))) (l49 : K.lookup f49 = some ⟨oc49, od49, .func (PySem.W.fnOf "_law_next_holds" "_law_next_holds" (defArgs (stm 49)) (defBody (stm 49)) (defScope (stm 49)) .none kV49 dc49 pm49 an49 cd49 ct49), sl49⟩) (c49 : PySem.W.codeIn K cd49 "_law_next_holds" = true) (k49 : PySem.W.keepIn K (.ref f49) = true)
    {f50 : Addr} {od50 an50 : Option Addr} {sl50 : Array (Option Value)} {oc50 kV50 dc50 pm50 cd50 ct50 : Value}
    (a50 : PySem.W.nsIn K mainGlobals "_law_period" = some (some (.ref f50))) (l50 : K.lookup f50 = some ⟨oc50, od50, .func (PySem.W.fnOf "_law_period" "_law_period" (defArgs (stm 50)) (defBody (stm 50)) (defScope (stm 50)) .none kV50 dc50 pm50 an50 cd50 ct50), sl50⟩) (c50 : PySem.W.codeIn K cd50 "_law_period" = true) (k50 : PySem.W.keepIn K (.ref f50) = true)
    {f51 : Addr} {od51 an51 : Option Addr} {sl51 : Array (Option Value)} {oc51 kV51 dc51 pm51 cd51 ct51 : Value}
    (a51 : PySem.W.nsIn K mainGlobals "_law_days" = some (some (.ref f51))) (l51 : K.lookup f51 = some ⟨oc51, od51, .func (PySem.W.fnOf "_law_days" "_law_days" (defArgs (stm 51)) (defBody (stm 51)) (defScope (stm 51)) .none kV51 dc51 pm51 an51 cd51 ct51), sl51⟩) (c51 : PySem.W.codeIn K cd51 "_law_days" = true) (k51 : PySem.W.keepIn K (.ref f51) = true)
    {f52 : Addr} {od52 an52 : Option Addr} {sl52 : Array (Option Value)} {oc52 kV52 dc52 pm52 cd52 ct52 : Value}
    (a52 : PySem.W.nsIn K mainGlobals "law" = some (some (.ref f52))) (l52 : K.lookup f52 = some ⟨oc52, od52, .func (PySem.W.fnOf "law" "law" (defArgs (stm 52)) (defBody (stm 52)) (defScope (stm 52)) .none kV52 dc52 pm52 an52 cd52 ct52), sl52⟩) (c52 : PySem.W.codeIn K cd52 "law" = true) (k52 : PySem.W.keepIn K (.ref f52) = true)
    {C fI Nk : Addr} {odI anI : Option Addr} {slI : Array (Option Value)} {ocI kVI dcI pmI cdI ctI : Value} {xnm xq xN xbs xbm xsn xsub xab xcol xdd xk0 xk1 xk2 xk3 xk5} {xcl}
    (x0 : PySem.W.nsIn K mainGlobals "NoKey" = some (some (.ref C))) (x1 : PySem.W.nsIn K mainGlobals "InvalidValue" = some (some (.ref Nk))) (x2 : PySem.W.findIn K (.ref C) "__init__" = some (some (.ref fI)))
    (x3 : K.lookup fI = some ⟨ocI, odI, .func (PySem.W.fnOf "__init__" "NoKey.__init__" (defArgs stI) (defBody stI) (defScope stI) .none kVI dcI pmI anI cdI ctI), slI⟩) (x4 : PySem.W.codeIn K cdI "NoKey.__init__" = true) (x5 : PySem.W.keepIn K (.ref fI) = true) (x6 : PySem.W.typeIn K (.ref fI) = some (.type "function"))
    (x7 : K.lookup C = some (excClassObj xnm xq C xN xbs xbm true xsn xsub xab xcol xdd xk0 xk1 xk2 xk3 xk5 "ValueError.__new__")) (x8 : PySem.HandSPX.refsVE xbm = true) (x9 : PySem.W.findIn K (.ref C) "__setattr__" = some (some (.builtin "object.__setattr__"))) (x10 : PySem.W.subIn K (.ref C) (.type "BaseException") = some true) (x11 : PySem.W.typeIn K (.ref C) = some (.type "type")) (x12 : PySem.W.keepIn K (.ref C) = true)
    (x13 : PySem.W.findIn K (.ref C) "key" = some none) (x14 : PySem.W.findIn K (.ref C) "__getattribute__" = some (some (.builtin "BaseException.__getattribute__"))) (x15 : PySem.W.findIn K (.ref C) "__getattr__" = some none) (x16 : PySem.W.hasDictIn K C = true) (x17 : PySem.W.clsIn K C = some xcl) (x18 : PySem.W.findIn K (.ref C) "__class__" = some (some (.builtin "object.__class__")))
    (x19 : PySem.W.specialIn K (.builtin "object.__class__") "__get__" = some (some (.builtin "getset_descriptor.__get__"))) (x20 : PySem.W.takesIn K (.builtin "object.__class__") = some true) (x21 : PySem.W.mroIn K C (.type "object") = some true) (x22 : PySem.W.kitOne K (.ref C) (.ref Nk) = some false) (x23 : PySem.W.subIn K (.ref C) (.ref C) = some true)
    {caCLASSES : Addr} {cnCLASSES : Nat} {cdCLASSES : Option Addr} {cslCLASSES : Array (Option Value)} {ctCLASSES0 ctCLASSES1 ctCLASSES2 : Tok} (nCLASSES : PySem.W.nsIn K mainGlobals "CLASSES" = some (some (.ref caCLASSES))) (oCLASSES : K.lookup caCLASSES = some ⟨.type "tuple", cdCLASSES, .seq #[.str "a" ctCLASSES0, .str "b" ctCLASSES1, .str "c" ctCLASSES2] cnCLASSES, cslCLASSES⟩)
    (z_len : PySem.W.nsIn K mainGlobals "len" = some none) (z_sum : PySem.W.nsIn K mainGlobals "sum" = some none) (z_max : PySem.W.nsIn K mainGlobals "max" = some none) (z_min : PySem.W.nsIn K mainGlobals "min" = some none) (z_range : PySem.W.nsIn K mainGlobals "range" = some none) (z_enumerate : PySem.W.nsIn K mainGlobals "enumerate" = some none) (z_zip : PySem.W.nsIn K mainGlobals "zip" = some none) (z_int : PySem.W.nsIn K mainGlobals "int" = some none) (z_bool : PySem.W.nsIn K mainGlobals "bool" = some none) (z_str : PySem.W.nsIn K mainGlobals "str" = some none) (z_isinstance : PySem.W.nsIn K mainGlobals "isinstance" = some none) (z_list : PySem.W.nsIn K mainGlobals "list" = some none) (z_tuple : PySem.W.nsIn K mainGlobals "tuple" = some none) (z_sorted : PySem.W.nsIn K mainGlobals "sorted" = some none) :
    ∃ fd : FuncData, (∀ (s : Shared) (v : Value), BindsTo s fd ⟨[v], []⟩ [("script", v)]) ∧ ∀ base : Heap, K.In base → base.Ns mainGlobals mg → FnOk l.prog w K mg base CX0 17 fa fd ["script"] (lawC K 63).sp := by
  have e := hfa.symm.trans (PySem.W.mg_of X G a52)
  cases e
  have F6 := fun_mk (st := stm 6) l6 c6 k6
  have b6 := F6.binds (ps := ["items"]) fun _ _ _ _ _ _ us hl => match us, hl with | [_], _ => rfl
  have F7 := fun_mk (st := stm 7) l7 c7 k7
  have b7 := F7.binds (ps := ["pairs", "percent"]) fun _ _ _ _ _ _ us hl => match us, hl with | [_, _], _ => rfl
  have F8 := fun_mk (st := stm 8) l8 c8 k8
  have b8 := F8.binds (ps := ["items", "first", "second"]) fun _ _ _ _ _ _ us hl => match us, hl with | [_, _, _], _ => rfl
  have F9 := fun_mk (st := stm 9) l9 c9 k9
  have b9 := F9.binds (ps := ["items", "first", "second", "periods"]) fun _ _ _ _ _ _ us hl => match us, hl with | [_, _, _, _], _ => rfl
  have F10 := fun_mk (st := stm 10) l10 c10 k10
  have b10 := F10.binds (ps := ["items", "first", "second", "periods", "days"]) fun _ _ _ _ _ _ us hl => match us, hl with | [_, _, _, _, _], _ => rfl
  have F11 := fun_mk (st := stm 11) l11 c11 k11
  have b11 := F11.binds (ps := ["plan"]) fun _ _ _ _ _ _ us hl => match us, hl with | [_], _ => rfl
  have F12 := fun_mk (st := stm 12) l12 c12 k12
  have b12 := F12.binds (ps := ["items", "first", "second", "periods", "item", "day"]) fun _ _ _ _ _ _ us hl => match us, hl with | [_, _, _, _, _, _], _ => rfl
  have F14 := fun_mk (st := stm 14) l14 c14 k14
  have b14 := F14.binds (ps := ["wishes", "height"]) fun _ _ _ _ _ _ us hl => match us, hl with | [_, _], _ => rfl
  have F15 := fun_mk (st := stm 15) l15 c15 k15
  have b15 := F15.binds (ps := ["wishes", "height"]) fun _ _ _ _ _ _ us hl => match us, hl with | [_, _], _ => rfl
  have F16 := fun_mk (st := stm 16) l16 c16 k16
  have b16 := F16.binds (ps := ["pool", "wishes"]) fun _ _ _ _ _ _ us hl => match us, hl with | [_, _], _ => rfl
  have F17 := fun_mk (st := stm 17) l17 c17 k17
  have b17 := F17.binds (ps := ["pool", "wishes"]) fun _ _ _ _ _ _ us hl => match us, hl with | [_, _], _ => rfl
  have F18 := fun_mk (st := stm 18) l18 c18 k18
  have b18 := F18.binds (ps := ["pool", "wishes"]) fun _ _ _ _ _ _ us hl => match us, hl with | [_, _], _ => rfl
  have F19 := fun_mk (st := stm 19) l19 c19 k19
  have b19 := F19.binds (ps := ["pool", "wishes"]) fun _ _ _ _ _ _ us hl => match us, hl with | [_, _], _ => rfl
  have F20 := fun_mk (st := stm 20) l20 c20 k20
  have b20 := F20.binds (ps := ["pool", "wishes"]) fun _ _ _ _ _ _ us hl => match us, hl with | [_, _], _ => rfl
  have F21 := fun_mk (st := stm 21) l21 c21 k21
  have b21 := F21.binds (ps := ["pool", "wishes"]) fun _ _ _ _ _ _ us hl => match us, hl with | [_, _], _ => rfl
  have F23 := fun_mk (st := stm 23) l23 c23 k23
  have b23 := F23.binds (ps := ["stock"]) fun _ _ _ _ _ _ us hl => match us, hl with | [_], _ => rfl
  have F24 := fun_mk (st := stm 24) l24 c24 k24
  have b24 := F24.binds (ps := ["orders", "chosen"]) fun _ _ _ _ _ _ us hl => match us, hl with | [_, _], _ => rfl
  have F25 := fun_mk (st := stm 25) l25 c25 k25
  have b25 := F25.binds (ps := ["stock", "orders", "chosen"]) fun _ _ _ _ _ _ us hl => match us, hl with | [_, _, _], _ => rfl
  have F26 := fun_mk (st := stm 26) l26 c26 k26
  have b26 := F26.binds (ps := ["stock", "orders", "chosen"]) fun _ _ _ _ _ _ us hl => match us, hl with | [_, _, _], _ => rfl
  have F27 := fun_mk (st := stm 27) l27 c27 k27
  have b27 := F27.binds (ps := ["orders", "chosen"]) fun _ _ _ _ _ _ us hl => match us, hl with | [_, _], _ => rfl
  have F28 := fun_mk (st := stm 28) l28 c28 k28
  have b28 := F28.binds (ps := ["stock", "orders", "chosen"]) fun _ _ _ _ _ _ us hl => match us, hl with | [_, _, _], _ => rfl
  have F29 := fun_mk (st := stm 29) l29 c29 k29
  have b29 := F29.binds (ps := ["stock", "orders"]) fun _ _ _ _ _ _ us hl => match us, hl with | [_, _], _ => rfl
  have F30 := fun_mk (st := stm 30) l30 c30 k30
  have b30 := F30.binds (ps := ["sets", "ranks"]) fun _ _ _ _ _ _ us hl => match us, hl with | [_, _], _ => rfl
  have F31 := fun_mk (st := stm 31) l31 c31 k31
  have b31 := F31.binds (ps := ["stock", "orders"]) fun _ _ _ _ _ _ us hl => match us, hl with | [_, _], _ => rfl
  have F32 := fun_mk (st := stm 32) l32 c32 k32
  have b32 := F32.binds (ps := ["values", "chosen"]) fun _ _ _ _ _ _ us hl => match us, hl with | [_, _], _ => rfl
  have F33 := fun_mk (st := stm 33) l33 c33 k33
  have b33 := F33.binds (ps := ["stock", "orders", "values"]) fun _ _ _ _ _ _ us hl => match us, hl with | [_, _, _], _ => rfl
  have F34 := fun_mk (st := stm 34) l34 c34 k34
  have b34 := F34.binds (ps := ["stock", "orders", "chosen", "at"]) fun _ _ _ _ _ _ us hl => match us, hl with | [_, _, _, _], _ => rfl
  have F36 := fun_mk (st := stm 36) l36 c36 k36
  have b36 := F36.binds (ps := ["script", "many"]) fun _ _ _ _ _ _ us hl => match us, hl with | [_, _], _ => rfl
  have F37 := fun_mk (st := stm 37) l37 c37 k37
  have b37 := F37.binds (ps := ["pool", "many"]) fun _ _ _ _ _ _ us hl => match us, hl with | [_, _], _ => rfl
  have F38 := fun_mk (st := stm 38) l38 c38 k38
  have b38 := F38.binds (ps := ["told", "due"]) fun _ _ _ _ _ _ us hl => match us, hl with | [_, _], _ => rfl
  have F39 := fun_mk (st := stm 39) l39 c39 k39
  have b39 := F39.binds (ps := ["pool", "words"]) fun _ _ _ _ _ _ us hl => match us, hl with | [_, _], _ => rfl
  have F40 := fun_mk (st := stm 40) l40 c40 k40
  have b40 := F40.binds (ps := ["pool", "many"]) fun _ _ _ _ _ _ us hl => match us, hl with | [_, _], _ => rfl
  have F41 := fun_mk (st := stm 41) l41 c41 k41
  have b41 := F41.binds (ps := ["values"]) fun _ _ _ _ _ _ us hl => match us, hl with | [_], _ => rfl
  have F42 := fun_mk (st := stm 42) l42 c42 k42
  have b42 := F42.binds (ps := ["values", "order", "percent"]) fun _ _ _ _ _ _ us hl => match us, hl with | [_, _, _], _ => rfl
  have F43 := fun_mk (st := stm 43) l43 c43 k43
  have b43 := F43.binds (ps := ["pool", "values", "order"]) fun _ _ _ _ _ _ us hl => match us, hl with | [_, _, _], _ => rfl
  have F44 := fun_mk (st := stm 44) l44 c44 k44
  have b44 := F44.binds (ps := ["names", "marks", "periods"]) fun _ _ _ _ _ _ us hl => match us, hl with | [_, _, _], _ => rfl
  have F45 := fun_mk (st := stm 45) l45 c45 k45
  have b45 := F45.binds (ps := ["names", "rests_v", "days"]) fun _ _ _ _ _ _ us hl => match us, hl with | [_, _, _], _ => rfl
  have F46 := fun_mk (st := stm 46) l46 c46 k46
  have b46 := F46.binds (ps := ["items", "first", "second", "names", "marks"]) fun _ _ _ _ _ _ us hl => match us, hl with | [_, _, _, _, _], _ => rfl
  have F47 := fun_mk (st := stm 47) l47 c47 k47
  have b47 := F47.binds (ps := ["many", "period"]) fun _ _ _ _ _ _ us hl => match us, hl with | [_, _], _ => rfl
  have F48 := fun_mk (st := stm 48) l48 c48 k48
  have b48 := F48.binds (ps := ["names", "values", "order", "many", "each", "spare"]) fun _ _ _ _ _ _ us hl => match us, hl with | [_, _, _, _, _, _], _ => rfl
  have F49 := fun_mk (st := stm 49) l49 c49 k49
  have b49 := F49.binds (ps := ["items", "percents", "periods", "names", "rests_v", "at", "day"]) fun _ _ _ _ _ _ us hl => match us, hl with | [_, _, _, _, _, _, _], _ => rfl
  have F50 := fun_mk (st := stm 50) l50 c50 k50
  have b50 := F50.binds (ps := ["pool"]) fun _ _ _ _ _ _ us hl => match us, hl with | [_], _ => rfl
  have F51 := fun_mk (st := stm 51) l51 c51 k51
  have b51 := F51.binds (ps := ["pool", "many"]) fun _ _ _ _ _ _ us hl => match us, hl with | [_, _], _ => rfl
  have F52 := fun_mk (st := stm 52) l52 c52 k52
  refine ⟨PySem.W.fnOf "law" "law" (defArgs (stm 52)) (defBody (stm 52)) (defScope (stm 52)) .none kV52 dc52 pm52 an52 cd52 ct52, fun s v => .of_eq rfl, fun base _ _ => ?_⟩
  have Bl : Blt ⟨l.prog, w, K, mg, base⟩ := ⟨PySem.W.mg_none_of X G z_len, PySem.W.mg_none_of X G z_sum, PySem.W.mg_none_of X G z_max, PySem.W.mg_none_of X G z_min, PySem.W.mg_none_of X G z_range, PySem.W.mg_none_of X G z_enumerate, PySem.W.mg_none_of X G z_zip, PySem.W.mg_none_of X G z_int, PySem.W.mg_none_of X G z_bool, PySem.W.mg_none_of X G z_str, PySem.W.mg_none_of X G z_isinstance, PySem.W.mg_none_of X G z_list, PySem.W.mg_none_of X G z_tuple, PySem.W.mg_none_of X G z_sorted⟩
  have P6 : Pr ⟨l.prog, w, K, mg, base⟩ "by_value" (stm 6) ["items"] := ⟨f6, _, F6, PySem.W.mg_of X G a6, b6⟩
  have P7 : Pr ⟨l.prog, w, K, mg, base⟩ "beginning" (stm 7) ["pairs", "percent"] := ⟨f7, _, F7, PySem.W.mg_of X G a7, b7⟩
  have P8 : Pr ⟨l.prog, w, K, mg, base⟩ "classes" (stm 8) ["items", "first", "second"] := ⟨f8, _, F8, PySem.W.mg_of X G a8, b8⟩
  have P9 : Pr ⟨l.prog, w, K, mg, base⟩ "rests" (stm 9) ["items", "first", "second", "periods"] := ⟨f9, _, F9, PySem.W.mg_of X G a9, b9⟩
  have P10 : Pr ⟨l.prog, w, K, mg, base⟩ "count_plan" (stm 10) ["items", "first", "second", "periods", "days"] := ⟨f10, _, F10, PySem.W.mg_of X G a10, b10⟩
  have P11 : Pr ⟨l.prog, w, K, mg, base⟩ "loads" (stm 11) ["plan"] := ⟨f11, _, F11, PySem.W.mg_of X G a11, b11⟩
  have P12 : Pr ⟨l.prog, w, K, mg, base⟩ "next_count" (stm 12) ["items", "first", "second", "periods", "item", "day"] := ⟨f12, _, F12, PySem.W.mg_of X G a12, b12⟩
  have P14 : Pr ⟨l.prog, w, K, mg, base⟩ "wanting" (stm 14) ["wishes", "height"] := ⟨f14, _, F14, PySem.W.mg_of X G a14, b14⟩
  have P15 : Pr ⟨l.prog, w, K, mg, base⟩ "poured" (stm 15) ["wishes", "height"] := ⟨f15, _, F15, PySem.W.mg_of X G a15, b15⟩
  have P16 : Pr ⟨l.prog, w, K, mg, base⟩ "height_of" (stm 16) ["pool", "wishes"] := ⟨f16, _, F16, PySem.W.mg_of X G a16, b16⟩
  have P17 : Pr ⟨l.prog, w, K, mg, base⟩ "fair_shares" (stm 17) ["pool", "wishes"] := ⟨f17, _, F17, PySem.W.mg_of X G a17, b17⟩
  have P18 : Pr ⟨l.prog, w, K, mg, base⟩ "unserved" (stm 18) ["pool", "wishes"] := ⟨f18, _, F18, PySem.W.mg_of X G a18, b18⟩
  have P19 : Pr ⟨l.prog, w, K, mg, base⟩ "level" (stm 19) ["pool", "wishes"] := ⟨f19, _, F19, PySem.W.mg_of X G a19, b19⟩
  have P20 : Pr ⟨l.prog, w, K, mg, base⟩ "rounds_of" (stm 20) ["pool", "wishes"] := ⟨f20, _, F20, PySem.W.mg_of X G a20, b20⟩
  have P21 : Pr ⟨l.prog, w, K, mg, base⟩ "fair_steps" (stm 21) ["pool", "wishes"] := ⟨f21, _, F21, PySem.W.mg_of X G a21, b21⟩
  have P23 : Pr ⟨l.prog, w, K, mg, base⟩ "pieces_there" (stm 23) ["stock"] := ⟨f23, _, F23, PySem.W.mg_of X G a23, b23⟩
  have P24 : Pr ⟨l.prog, w, K, mg, base⟩ "pieces_needed" (stm 24) ["orders", "chosen"] := ⟨f24, _, F24, PySem.W.mg_of X G a24, b24⟩
  have P25 : Pr ⟨l.prog, w, K, mg, base⟩ "too_few" (stm 25) ["stock", "orders", "chosen"] := ⟨f25, _, F25, PySem.W.mg_of X G a25, b25⟩
  have P26 : Pr ⟨l.prog, w, K, mg, base⟩ "fits" (stm 26) ["stock", "orders", "chosen"] := ⟨f26, _, F26, PySem.W.mg_of X G a26, b26⟩
  have P27 : Pr ⟨l.prog, w, K, mg, base⟩ "later_places" (stm 27) ["orders", "chosen"] := ⟨f27, _, F27, PySem.W.mg_of X G a27, b27⟩
  have P28 : Pr ⟨l.prog, w, K, mg, base⟩ "sets_from" (stm 28) ["stock", "orders", "chosen"] := ⟨f28, _, F28, PySem.W.mg_of X G a28, b28⟩
  have P29 : Pr ⟨l.prog, w, K, mg, base⟩ "fitting_sets" (stm 29) ["stock", "orders"] := ⟨f29, _, F29, PySem.W.mg_of X G a29, b29⟩
  have P30 : Pr ⟨l.prog, w, K, mg, base⟩ "first_of_best" (stm 30) ["sets", "ranks"] := ⟨f30, _, F30, PySem.W.mg_of X G a30, b30⟩
  have P31 : Pr ⟨l.prog, w, K, mg, base⟩ "most_whole" (stm 31) ["stock", "orders"] := ⟨f31, _, F31, PySem.W.mg_of X G a31, b31⟩
  have P32 : Pr ⟨l.prog, w, K, mg, base⟩ "value_of" (stm 32) ["values", "chosen"] := ⟨f32, _, F32, PySem.W.mg_of X G a32, b32⟩
  have P33 : Pr ⟨l.prog, w, K, mg, base⟩ "best_value" (stm 33) ["stock", "orders", "values"] := ⟨f33, _, F33, PySem.W.mg_of X G a33, b33⟩
  have P34 : Pr ⟨l.prog, w, K, mg, base⟩ "blocking" (stm 34) ["stock", "orders", "chosen", "at"] := ⟨f34, _, F34, PySem.W.mg_of X G a34, b34⟩
  have P36 : Pr ⟨l.prog, w, K, mg, base⟩ "_law_pool" (stm 36) ["script", "many"] := ⟨f36, _, F36, PySem.W.mg_of X G a36, b36⟩
  have P37 : Pr ⟨l.prog, w, K, mg, base⟩ "_law_draw" (stm 37) ["pool", "many"] := ⟨f37, _, F37, PySem.W.mg_of X G a37, b37⟩
  have P38 : Pr ⟨l.prog, w, K, mg, base⟩ "_law_same" (stm 38) ["told", "due"] := ⟨f38, _, F38, PySem.W.mg_of X G a38, b38⟩
  have P39 : Pr ⟨l.prog, w, K, mg, base⟩ "_law_word" (stm 39) ["pool", "words"] := ⟨f39, _, F39, PySem.W.mg_of X G a39, b39⟩
  have P40 : Pr ⟨l.prog, w, K, mg, base⟩ "_law_values" (stm 40) ["pool", "many"] := ⟨f40, _, F40, PySem.W.mg_of X G a40, b40⟩
  have P41 : Pr ⟨l.prog, w, K, mg, base⟩ "_law_falling" (stm 41) ["values"] := ⟨f41, _, F41, PySem.W.mg_of X G a41, b41⟩
  have P42 : Pr ⟨l.prog, w, K, mg, base⟩ "_law_beginning" (stm 42) ["values", "order", "percent"] := ⟨f42, _, F42, PySem.W.mg_of X G a42, b42⟩
  have P43 : Pr ⟨l.prog, w, K, mg, base⟩ "_law_percent" (stm 43) ["pool", "values", "order"] := ⟨f43, _, F43, PySem.W.mg_of X G a43, b43⟩
  have P44 : Pr ⟨l.prog, w, K, mg, base⟩ "_law_rests" (stm 44) ["names", "marks", "periods"] := ⟨f44, _, F44, PySem.W.mg_of X G a44, b44⟩
  have P45 : Pr ⟨l.prog, w, K, mg, base⟩ "_law_plan" (stm 45) ["names", "rests_v", "days"] := ⟨f45, _, F45, PySem.W.mg_of X G a45, b45⟩
  have P46 : Pr ⟨l.prog, w, K, mg, base⟩ "_law_classes_hold" (stm 46) ["items", "first", "second", "names", "marks"] := ⟨f46, _, F46, PySem.W.mg_of X G a46, b46⟩
  have P47 : Pr ⟨l.prog, w, K, mg, base⟩ "_law_shares_hold" (stm 47) ["many", "period"] := ⟨f47, _, F47, PySem.W.mg_of X G a47, b47⟩
  have P48 : Pr ⟨l.prog, w, K, mg, base⟩ "_law_wholes_hold" (stm 48) ["names", "values", "order", "many", "each", "spare"] := ⟨f48, _, F48, PySem.W.mg_of X G a48, b48⟩
  have P49 : Pr ⟨l.prog, w, K, mg, base⟩ "_law_next_holds" (stm 49) ["items", "percents", "periods", "names", "rests_v", "at", "day"] := ⟨f49, _, F49, PySem.W.mg_of X G a49, b49⟩
  have P50 : Pr ⟨l.prog, w, K, mg, base⟩ "_law_period" (stm 50) ["pool"] := ⟨f50, _, F50, PySem.W.mg_of X G a50, b50⟩
  have P51 : Pr ⟨l.prog, w, K, mg, base⟩ "_law_days" (stm 51) ["pool", "many"] := ⟨f51, _, F51, PySem.W.mg_of X G a51, b51⟩
  have FI := fun_mk (st := stI) x3 x4 x5
  have bI := FI.binds (ps := ["self", "key"]) fun _ _ _ _ _ _ us hl => match us, hl with | [_, _], _ => rfl
  have XT : XC ⟨l.prog, w, K, mg, base⟩ "NoKey" C fI _ "key" "key" 1 := ⟨⟨⟨_, _, _, _, _, _, _, _, _, _, _, _, _, _, _, x7, x8⟩, x9, x10, x11, x12⟩, x2, x6, fn_init FI ⟨rfl, rfl, rfl, by decide +kernel, rfl, by decide +kernel, by decide +kernel⟩ rfl (.inl rfl) (.inl rfl) rfl rfl, bI, x13, PySem.W.mg_of X G x0⟩
  have XDf : XD K C Nk "key" := ⟨⟨x14, x15, x10, x16⟩, x13, by rw [x17]; rfl, x18, x19, x20, x21, x22⟩
  have hNo := PySem.W.mg_of X G x1
  have hIV := PySem.W.mg_of X G x0
  have hxm := PySem.W.exm_ref x10 x16 x11 x23
  have K_CLASSES : Kg ⟨l.prog, w, K, mg, base⟩ "CLASSES" (Mq K false Tx g_CLASSES) := ⟨.ref caCLASSES, .ref caCLASSES, PySem.W.mg_of X G nCLASSES, rfl, fun B => ⟨caCLASSES, [.str "a", .str "b", .str "c"], rfl, fun H => .inr ⟨_, _, _, oCLASSES, rfl, rfl, (by show _ ≤ 16777216; simp), (by exact .cons ⟨_, rfl⟩ (.cons ⟨_, rfl⟩ (.cons ⟨_, rfl⟩ (.nil))))⟩, .cons rfl (.cons rfl (.cons rfl (.nil)))⟩⟩
  have XD_NoKey := XDf
  have m_NoKey := hIV
  have mN_InvalidValue := hNo
  have hex_NoKey := hxm
  have Bq : Bx ⟨l.prog, w, K, mg, base⟩ := ⟨Bl.enumerate, Bl.int, Bl.isinstance, Bl.len, Bl.list, Bl.max, Bl.min, Bl.range, Bl.sorted, Bl.str, Bl.sum, Bl.tuple, Bl.zip⟩
  have G_same := g_same Bl P38
  have G_sameH := g_sameH Bl P38
  have G_by_value := g_by_value Bq P6
  have G_beginning := g_beginning Bq P7
  have G_classes := g_classes Bq P8 G_by_value G_beginning K_CLASSES
  have G_rests := g_rests Bq P9 G_classes K_CLASSES
  have G_count_plan := g_count_plan Bq P10 G_rests
  have G_loads := g_loads Bq P11
  have G_next_count := g_next_count Bq P12 G_rests
  have Gx_next_count := gx_next_count Bq XT P12 G_rests
  have G_wanting := g_wanting Bq P14
  have G_poured := g_poured Bq P15
  have G_height_of := g_height_of Bq P16 G_poured
  have G_fair_shares := g_fair_shares Bq P17 G_height_of G_poured G_wanting
  have G_unserved := g_unserved Bq P18 G_fair_shares
  have G_level := g_level Bq P19 G_fair_shares G_unserved
  have G_rounds_of := g_rounds_of Bq P20 G_wanting
  have G_fair_steps := g_fair_steps Bq P21 G_rounds_of
  have G_pieces_there := g_pieces_there Bq P23
  have G_pieces_needed := g_pieces_needed Bq P24
  have G_too_few := g_too_few Bq P25 G_pieces_there G_pieces_needed
  have G_fits := g_fits Bq P26 G_too_few
  have G_later_places := g_later_places Bq P27
  have G_sets_from := g_sets_from Bq P28 G_later_places G_fits
  have G_fitting_sets := g_fitting_sets Bq P29 G_sets_from
  have G_first_of_best__0 := g_first_of_best__0 Bq P30
  have G_most_whole := g_most_whole Bq P31 G_fitting_sets G_first_of_best__0
  have G_value_of := g_value_of Bq P32
  have G_first_of_best__1 := g_first_of_best__1 Bq P30
  have G_best_value := g_best_value Bq P33 G_fitting_sets G_value_of G_first_of_best__1
  have G_blocking := g_blocking Bq P34 G_too_few
  have G__law_pool := g__law_pool Bq P36
  have G__law_draw := g__law_draw Bq P37
  have G__law_word := g__law_word Bq P39 G__law_draw
  have G__law_values := g__law_values Bq P40 G__law_draw
  have G__law_falling := g__law_falling Bq P41
  have G__law_beginning := g__law_beginning Bq P42
  have G__law_percent := g__law_percent Bq P43 G__law_draw
  have G__law_rests := g__law_rests Bq P44
  have G__law_plan := g__law_plan Bq P45
  have G__law_classes_hold := g__law_classes_hold Bq P46 G_classes G_same
  have G__law_shares_hold := g__law_shares_hold Bq P47 G_fair_shares G_same G_level G_fair_steps
  have G__law_wholes_hold := g__law_wholes_hold Bq P48 G_best_value G_same G_most_whole G_fits G_blocking
  have G__law_next_holds := g__law_next_holds Bq P49 G_next_count G_same G_sameH Gx_next_count XD_NoKey m_NoKey mN_InvalidValue hex_NoKey
  have G__law_period := g__law_period Bq P50 G__law_draw
  have G__law_days := g__law_days Bq P51 G__law_draw
  exact law_pull K24_LAW (g_law Bq F52 G__law_pool G__law_draw G__law_word G__law_values G__law_falling G__law_percent G__law_beginning G__law_classes_hold G__law_period G__law_rests G__law_days G__law_plan G_count_plan G_same G_loads G__law_shares_hold G__law_next_holds G__law_wholes_hold)
end K24
open PySem PySem.W PyProof.Rows
set_option maxHeartbeats 0 in
theorem PySem.Challenge.cw_oncecounted_k24_whole_counts_shared_holds : PySem.Challenge.rw_oncecounted_k24_whole_counts_shared.Holds := by
  w_on; o_law; k_head; (case hw => w_witness2)
  k_fill
  refine L2.walk_of (l := PySem.Challenge.rw_oncecounted_k24_whole_counts_shared) (n := 63) (k := 17) (x := "script") (CX := fun _ => L2.CX0) (sp := fun w => (ZZ.lawC _ 63).sp) rfl (by decide) rfl ⟨rfl, by decide, by decide⟩ (fun w h Y => PySem.W.kIn_of Y) ?F (fun _ _ a ns hl _ hS => ZZ.law_sp hl hS) (fun _ _ _ _ _ h => h)
  case F =>
    intro w mg fa h KX G hmg
    refine' K24.all_mk KX G hmg ?a6 ?l6 ?c6 ?k6 ?a7 ?l7 ?c7 ?k7 ?a8 ?l8 ?c8 ?k8 ?a9 ?l9 ?c9 ?k9 ?a10 ?l10 ?c10 ?k10 ?a11 ?l11 ?c11 ?k11 ?a12 ?l12 ?c12 ?k12 ?a14 ?l14 ?c14 ?k14 ?a15 ?l15 ?c15 ?k15 ?a16 ?l16 ?c16 ?k16 ?a17 ?l17 ?c17 ?k17 ?a18 ?l18 ?c18 ?k18 ?a19 ?l19 ?c19 ?k19 ?a20 ?l20 ?c20 ?k20 ?a21 ?l21 ?c21 ?k21 ?a23 ?l23 ?c23 ?k23 ?a24 ?l24 ?c24 ?k24 ?a25 ?l25 ?c25 ?k25 ?a26 ?l26 ?c26 ?k26 ?a27 ?l27 ?c27 ?k27 ?a28 ?l28 ?c28 ?k28 ?a29 ?l29 ?c29 ?k29 ?a30 ?l30 ?c30 ?k30 ?a31 ?l31 ?c31 ?k31 ?a32 ?l32 ?c32 ?k32 ?a33 ?l33 ?c33 ?k33 ?a34 ?l34 ?c34 ?k34 ?a36 ?l36 ?c36 ?k36 ?a37 ?l37 ?c37 ?k37 ?a38 ?l38 ?c38 ?k38 ?a39 ?l39 ?c39 ?k39 ?a40 ?l40 ?c40 ?k40 ?a41 ?l41 ?c41 ?k41 ?a42 ?l42 ?c42 ?k42 ?a43 ?l43 ?c43 ?k43 ?a44 ?l44 ?c44 ?k44 ?a45 ?l45 ?c45 ?k45 ?a46 ?l46 ?c46 ?k46 ?a47 ?l47 ?c47 ?k47 ?a48 ?l48 ?c48 ?k48 ?a49 ?l49 ?c49 ?k49 ?a50 ?l50 ?c50 ?k50 ?a51 ?l51 ?c51 ?k51 ?a52 ?l52 ?c52 ?k52 ?x0 ?x1 ?x2 ?x3 ?x4 ?x5 ?x6 ?x7 ?x8 ?x9 ?x10 ?x11 ?x12 ?x13 ?x14 ?x15 ?x16 ?x17 ?x18 ?x19 ?x20 ?x21 ?x22 ?x23 ?nCLASSES ?oCLASSES ?z_len ?z_sum ?z_max ?z_min ?z_range ?z_enumerate ?z_zip ?z_int ?z_bool ?z_str ?z_isinstance ?z_list ?z_tuple ?z_sorted
    (case a6 => k_is); (case l6 => k_is); (case c6 => k_is); (case k6 => k_is); (case a7 => k_is); (case l7 => k_is); (case c7 => k_is); (case k7 => k_is); (case a8 => k_is); (case l8 => k_is); (case c8 => k_is); (case k8 => k_is); (case a9 => k_is); (case l9 => k_is); (case c9 => k_is); (case k9 => k_is); (case a10 => k_is); (case l10 => k_is); (case c10 => k_is); (case k10 => k_is); (case a11 => k_is); (case l11 => k_is); (case c11 => k_is); (case k11 => k_is); (case a12 => k_is); (case l12 => k_is); (case c12 => k_is); (case k12 => k_is); (case a14 => k_is); (case l14 => k_is); (case c14 => k_is); (case k14 => k_is); (case a15 => k_is); (case l15 => k_is); (case c15 => k_is); (case k15 => k_is); (case a16 => k_is); (case l16 => k_is); (case c16 => k_is); (case k16 => k_is); (case a17 => k_is); (case l17 => k_is); (case c17 => k_is); (case k17 => k_is); (case a18 => k_is); (case l18 => k_is); (case c18 => k_is); (case k18 => k_is); (case a19 => k_is); (case l19 => k_is); (case c19 => k_is); (case k19 => k_is); (case a20 => k_is); (case l20 => k_is); (case c20 => k_is); (case k20 => k_is); (case a21 => k_is); (case l21 => k_is); (case c21 => k_is); (case k21 => k_is); (case a23 => k_is); (case l23 => k_is); (case c23 => k_is); (case k23 => k_is); (case a24 => k_is); (case l24 => k_is); (case c24 => k_is); (case k24 => k_is); (case a25 => k_is); (case l25 => k_is); (case c25 => k_is); (case k25 => k_is); (case a26 => k_is); (case l26 => k_is); (case c26 => k_is); (case k26 => k_is); (case a27 => k_is); (case l27 => k_is); (case c27 => k_is); (case k27 => k_is); (case a28 => k_is); (case l28 => k_is); (case c28 => k_is); (case k28 => k_is); (case a29 => k_is); (case l29 => k_is); (case c29 => k_is); (case k29 => k_is); (case a30 => k_is); (case l30 => k_is); (case c30 => k_is); (case k30 => k_is); (case a31 => k_is); (case l31 => k_is); (case c31 => k_is); (case k31 => k_is); (case a32 => k_is); (case l32 => k_is); (case c32 => k_is); (case k32 => k_is); (case a33 => k_is); (case l33 => k_is); (case c33 => k_is); (case k33 => k_is); (case a34 => k_is); (case l34 => k_is); (case c34 => k_is); (case k34 => k_is); (case a36 => k_is); (case l36 => k_is); (case c36 => k_is); (case k36 => k_is); (case a37 => k_is); (case l37 => k_is); (case c37 => k_is); (case k37 => k_is); (case a38 => k_is); (case l38 => k_is); (case c38 => k_is); (case k38 => k_is); (case a39 => k_is); (case l39 => k_is); (case c39 => k_is); (case k39 => k_is); (case a40 => k_is); (case l40 => k_is); (case c40 => k_is); (case k40 => k_is); (case a41 => k_is); (case l41 => k_is); (case c41 => k_is); (case k41 => k_is); (case a42 => k_is); (case l42 => k_is); (case c42 => k_is); (case k42 => k_is); (case a43 => k_is); (case l43 => k_is); (case c43 => k_is); (case k43 => k_is); (case a44 => k_is); (case l44 => k_is); (case c44 => k_is); (case k44 => k_is); (case a45 => k_is); (case l45 => k_is); (case c45 => k_is); (case k45 => k_is); (case a46 => k_is); (case l46 => k_is); (case c46 => k_is); (case k46 => k_is); (case a47 => k_is); (case l47 => k_is); (case c47 => k_is); (case k47 => k_is); (case a48 => k_is); (case l48 => k_is); (case c48 => k_is); (case k48 => k_is); (case a49 => k_is); (case l49 => k_is); (case c49 => k_is); (case k49 => k_is); (case a50 => k_is); (case l50 => k_is); (case c50 => k_is); (case k50 => k_is); (case a51 => k_is); (case l51 => k_is); (case c51 => k_is); (case k51 => k_is); (case a52 => k_is); (case l52 => k_is); (case c52 => k_is); (case k52 => k_is); (case x0 => k_is); (case x1 => k_is); (case x2 => k_is); (case x3 => k_is); (case x4 => k_is); (case x5 => k_is); (case x6 => k_is); (case x7 => k_is); (case x9 => k_is); (case x10 => k_is); (case x11 => k_is); (case x12 => k_is); (case x13 => k_is); (case x14 => k_is); (case x15 => k_is); (case x16 => k_is); (case x17 => k_is); (case x18 => k_is); (case x19 => k_is); (case x20 => k_is); (case x21 => k_is); (case x22 => kit_is); (case x23 => k_is); (case nCLASSES => k_is); (case oCLASSES => k_is); (case z_len => k_is); (case z_sum => k_is); (case z_max => k_is); (case z_min => k_is); (case z_range => k_is); (case z_enumerate => k_is); (case z_zip => k_is); (case z_int => k_is); (case z_bool => k_is); (case z_str => k_is); (case z_isinstance => k_is); (case z_list => k_is); (case z_tuple => k_is); (case z_sorted => k_is); (case x8 => rfl)

