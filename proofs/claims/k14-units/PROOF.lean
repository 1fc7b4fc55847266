import PyProof.Rows.All
import Wide.All
import OpenK.AllK
import Wide.FinOn
import HandS.ForExc
import HandS.Comp
import HandS.Dict
import HandS.DictComp
import HandS.CallSlots
import HandS.TryMany
import HandS.IsInst
import HandS.TupAny
import HandS.Conv
import HandS.SortInts
import HandS.Deep
import HandS.Style
import HandS.Gcd
import HandS.ForMost
import HandS.SetFor
import HandS.Strs
import HandS.More
import HandS.Iter
import KE.SortData
import PySem.Challenge.RW_theoriesjoin_k14_units
set_option Elab.async false
set_option maxRecDepth 100000
set_option linter.all false
set_option maxHeartbeats 4000000

/-! Mir: what an expression or a statement computes, as a plain function over trees of data and a store of the objects that are still written. -/
namespace Mir
open PySem PySem.Spec PyProof.Rows L2

/-- data as a tree; ref n: the n-th object of the store -/
inductive D where
  | non | bl (b : Bool) | int (i : Int) | str (x : Str) | ty (n : String)
  | tup (xs : List D) | lst (xs : List D) | dic (ks : List Key) (xs : List D) | ref (n : Nat)

mutual
def Rep (μ : List Addr) (F : Hp) : D → V → Prop
  | .non, v => v = .non
  | .bl b, v => v = .bl b
  | .int i, v => v = .int i
  | .str x, v => v = .str x
  | .ty n, v => v = .ty n
  | .tup ds, v => ∃ a vs, v = .ref a ∧ F a = some (.tup vs) ∧ ds.length ≤ sizeLine ∧ Reps μ F ds vs
  | .lst ds, v => ∃ a vs, v = .ref a ∧ Rd F a (.lst vs) ∧ ds.length ≤ sizeLine ∧ Reps μ F ds vs
  | .dic ks ds, v => ∃ a vs o, v = .ref a ∧ F a = some (.frz o (.dK (ks.zip vs))) ∧ ks.length = ds.length ∧ ds.length ≤ sizeLine ∧ Reps μ F ds vs
  | .ref n, v => ∃ a, v = .ref a ∧ μ[n]? = some a
def Reps (μ : List Addr) (F : Hp) : List D → List V → Prop
  | [], vs => vs = []
  | d :: ds, vs => ∃ v r, vs = v :: r ∧ Rep μ F d v ∧ Reps μ F ds r
end

/-- what was there stays: F is told whole in H -/
def Ext (H H' : Hp) : Prop := ∀ a o, H a = some o → H' a = some o
theorem Ext.refl (H : Hp) : Ext H H := fun _ _ h => h
theorem Ext.trans {H H1 H2 : Hp} (a : Ext H H1) (b : Ext H1 H2) : Ext H H2 := fun c o h => b c o (a c o h)
theorem Ext.free {H H' : Hp} (e : Ext H H') {a : Addr} (h : H' a = none) : H a = none := by
  cases q : H a with
  | none => rfl
  | some o => rw [e _ _ q] at h; cases h
theorem Ext.rd {F F' : Hp} (e : Ext F F') {a : Addr} {u : HO} (h : Rd F a u) : Rd F' a u := by
  rcases h with h | ⟨o, h⟩
  · exact .inl (e _ _ h)
  · exact .inr ⟨o, e _ _ h⟩
theorem Ext.new {H : Hp} {p : Addr} {o : HO} (h : H p = none) : Ext H (upd H p o) := fun a u e => by
  rw [upd_ne (ne_of_none e h)]; exact e

mutual
theorem Rep.mono {μ μ' : List Addr} {F F' : Hp} (hm : μ <+: μ') (hf : Ext F F') : ∀ (d : D) (v : V), Rep μ F d v → Rep μ' F' d v
  | .non, v, h => by simpa only [Rep] using h
  | .bl b, v, h => by simpa only [Rep] using h
  | .int i, v, h => by simpa only [Rep] using h
  | .str x, v, h => by simpa only [Rep] using h
  | .ty n, v, h => by simpa only [Rep] using h
  | .tup ds, v, h => by
    simp only [Rep] at h ⊢
    obtain ⟨a, vs, e, q, z, r⟩ := h
    exact ⟨a, vs, e, hf _ _ q, z, Reps.mono hm hf ds vs r⟩
  | .lst ds, v, h => by
    simp only [Rep] at h ⊢
    obtain ⟨a, vs, e, q, z, r⟩ := h
    exact ⟨a, vs, e, hf.rd q, z, Reps.mono hm hf ds vs r⟩
  | .dic ks ds, v, h => by
    simp only [Rep] at h ⊢
    obtain ⟨a, vs, o, e, q, l, z, r⟩ := h
    exact ⟨a, vs, o, e, hf _ _ q, l, z, Reps.mono hm hf ds vs r⟩
  | .ref n, v, h => by
    simp only [Rep] at h ⊢
    obtain ⟨a, e, q⟩ := h
    refine ⟨a, e, ?_⟩
    obtain ⟨t, rfl⟩ := hm
    rw [List.getElem?_append_left (List.getElem?_eq_some_iff.mp q).1]
    exact q
theorem Reps.mono {μ μ' : List Addr} {F F' : Hp} (hm : μ <+: μ') (hf : Ext F F') : ∀ (ds : List D) (vs : List V), Reps μ F ds vs → Reps μ' F' ds vs
  | [], vs, h => by simpa only [Reps] using h
  | d :: ds, vs, h => by
    simp only [Reps] at h ⊢
    obtain ⟨v, r, e, h1, h2⟩ := h
    exact ⟨v, r, e, Rep.mono hm hf d v h1, Reps.mono hm hf ds r h2⟩
end
theorem Reps.length {μ : List Addr} {F : Hp} : ∀ {ds : List D} {vs : List V}, Reps μ F ds vs → ds.length = vs.length
  | [], vs, h => by simp only [Reps] at h; simp [h]
  | d :: ds, vs, h => by
    simp only [Reps] at h
    obtain ⟨v, r, rfl, _, h2⟩ := h
    simp [Reps.length h2]
theorem Reps.get {μ : List Addr} {F : Hp} : ∀ {ds : List D} {vs : List V} {i : Nat} {d : D}, Reps μ F ds vs → ds[i]? = some d → ∃ v, vs[i]? = some v ∧ Rep μ F d v
  | [], _, _, _, _, e => by simp at e
  | d :: ds, vs, 0, x, h, e => by
    simp only [Reps] at h
    obtain ⟨v, r, rfl, h1, _⟩ := h
    simp at e; subst e
    exact ⟨v, by simp, h1⟩
  | d :: ds, vs, i + 1, x, h, e => by
    simp only [Reps] at h
    obtain ⟨v, r, rfl, _, h2⟩ := h
    obtain ⟨w, q1, q2⟩ := Reps.get (i := i) h2 (by simpa using e)
    exact ⟨w, by simpa using q1, q2⟩
theorem Reps.get' {μ : List Addr} {F : Hp} {ds : List D} {vs : List V} {i : Nat} {v : V} (h : Reps μ F ds vs) (e : vs[i]? = some v) : ∃ d, ds[i]? = some d ∧ Rep μ F d v := by
  have hl := h.length
  have hi : i < ds.length := by rw [hl]; exact (List.getElem?_eq_some_iff.mp e).1
  obtain ⟨w, q1, q2⟩ := h.get (i := i) (d := ds[i]) (by simp [hi])
  rw [e] at q1; cases q1
  exact ⟨_, by simp [hi], q2⟩
theorem reps_nil {μ : List Addr} {F : Hp} : Reps μ F [] [] := by simp only [Reps]
theorem Reps.cons {μ : List Addr} {F : Hp} {d : D} {v : V} {ds : List D} {vs : List V} (h1 : Rep μ F d v) (h2 : Reps μ F ds vs) : Reps μ F (d :: ds) (v :: vs) := by
  simp only [Reps]; exact ⟨v, vs, rfl, h1, h2⟩
theorem Reps.uncons {μ : List Addr} {F : Hp} {d : D} {ds : List D} {vs : List V} (h : Reps μ F (d :: ds) vs) : ∃ v r, vs = v :: r ∧ Rep μ F d v ∧ Reps μ F ds r := by
  simpa only [Reps] using h
theorem Reps.nil_inv {μ : List Addr} {F : Hp} {vs : List V} (h : Reps μ F [] vs) : vs = [] := by simpa only [Reps] using h
theorem Reps.append {μ : List Addr} {F : Hp} : ∀ {ds es : List D} {vs ws : List V}, Reps μ F ds vs → Reps μ F es ws → Reps μ F (ds ++ es) (vs ++ ws)
  | [], es, vs, ws, h, k => by cases h.nil_inv; simpa using k
  | d :: ds, es, vs, ws, h, k => by
    obtain ⟨v, r, rfl, h1, h2⟩ := h.uncons
    exact Reps.cons h1 (Reps.append h2 k)
theorem Reps.take {μ : List Addr} {F : Hp} : ∀ {ds : List D} {vs : List V} (n : Nat), Reps μ F ds vs → Reps μ F (ds.take n) (vs.take n)
  | [], vs, n, h => by cases h.nil_inv; simpa using reps_nil
  | d :: ds, vs, 0, h => by simpa using reps_nil
  | d :: ds, vs, n + 1, h => by
    obtain ⟨v, r, rfl, h1, h2⟩ := h.uncons
    exact Reps.cons h1 (Reps.take n h2)
theorem Reps.drop {μ : List Addr} {F : Hp} : ∀ {ds : List D} {vs : List V} (n : Nat), Reps μ F ds vs → Reps μ F (ds.drop n) (vs.drop n)
  | [], vs, n, h => by cases h.nil_inv; simpa using reps_nil
  | d :: ds, vs, 0, h => by simpa using h
  | d :: ds, vs, n + 1, h => by
    obtain ⟨v, r, rfl, h1, h2⟩ := h.uncons
    exact Reps.drop n h2
theorem Reps.set {μ : List Addr} {F : Hp} {d : D} {v : V} (hd : Rep μ F d v) : ∀ {ds : List D} {vs : List V} (n : Nat), Reps μ F ds vs → Reps μ F (ds.set n d) (vs.set n v)
  | [], vs, n, h => by cases h.nil_inv; simpa using reps_nil
  | e :: ds, vs, 0, h => by
    obtain ⟨w, r, rfl, h1, h2⟩ := h.uncons
    exact Reps.cons hd h2
  | e :: ds, vs, n + 1, h => by
    obtain ⟨w, r, rfl, h1, h2⟩ := h.uncons
    exact Reps.cons h1 (Reps.set hd n h2)
theorem Reps.eraseIdx {μ : List Addr} {F : Hp} : ∀ {ds : List D} {vs : List V} (n : Nat), Reps μ F ds vs → Reps μ F (ds.eraseIdx n) (vs.eraseIdx n)
  | [], vs, n, h => by cases h.nil_inv; simpa using reps_nil
  | e :: ds, vs, 0, h => by
    obtain ⟨w, r, rfl, h1, h2⟩ := h.uncons
    exact h2
  | e :: ds, vs, n + 1, h => by
    obtain ⟨w, r, rfl, h1, h2⟩ := h.uncons
    exact Reps.cons h1 (Reps.eraseIdx n h2)
theorem Reps.reverse {μ : List Addr} {F : Hp} : ∀ {ds : List D} {vs : List V}, Reps μ F ds vs → Reps μ F ds.reverse vs.reverse
  | [], vs, h => by cases h.nil_inv; simpa using reps_nil
  | e :: ds, vs, h => by
    obtain ⟨w, r, rfl, h1, h2⟩ := h.uncons
    rw [List.reverse_cons, List.reverse_cons]
    exact Reps.append (Reps.reverse h2) (Reps.cons h1 reps_nil)

/-! ### the store -/
inductive Ob where
  | lst (xs : List D) | fz (xs : List D) | dic (ks : List Key) (xs : List D) | dead
abbrev Store := List Ob
def ObRep (μ : List Addr) (F H : Hp) (a : Addr) : Ob → Prop
  | .lst ds => ∃ vs, H a = some (.lst vs) ∧ Reps μ F ds vs ∧ F a = none ∧ ds.length ≤ sizeLine
  | .fz ds => ∃ vs, F a = some (.lst vs) ∧ Reps μ F ds vs ∧ ds.length ≤ sizeLine
  | .dic ks ds => ∃ vs, H a = some (.dK (ks.zip vs)) ∧ ks.length = ds.length ∧ Reps μ F ds vs ∧ F a = none ∧ ds.length ≤ sizeLine
  | .dead => True
structure Sim (S : Store) (μ : List Addr) (F H : Hp) : Prop where
  len : μ.length = S.length
  nd : μ.Nodup
  ext : Ext F H
  up : ∀ a ∈ μ, H a ≠ none
  obj : ∀ (n : Nat) (o : Ob) (a : Addr), S[n]? = some o → μ[n]? = some a → ObRep μ F H a o
/-- from one state to a later one -/
structure Go (μ : List Addr) (F H : Hp) (μ' : List Addr) (F' H' : Hp) : Prop where
  pre : μ <+: μ'
  ex : Ext F F'
  fr : ∀ b o, H b = some o → b ∉ μ → H' b = some o
  fresh : ∀ b, b ∈ μ' → b ∉ μ → H b = none
  nf : ∀ b o, F b = none → H b = some o → b ∉ μ → F' b = none
theorem Go.refl (μ : List Addr) (F H : Hp) : Go μ F H μ F H := ⟨List.prefix_refl _, Ext.refl _, fun _ _ h _ => h, fun _ h n => absurd h n, fun _ _ h _ _ => h⟩
theorem Go.trans {μ μ1 μ2 : List Addr} {F H F1 H1 F2 H2 : Hp} (a : Go μ F H μ1 F1 H1) (b : Go μ1 F1 H1 μ2 F2 H2) : Go μ F H μ2 F2 H2 := by
  refine ⟨a.pre.trans b.pre, a.ex.trans b.ex, fun c o h n => ?_, fun c h n => ?_, fun c o h1 h2 n => ?_⟩
  · refine b.fr c o (a.fr c o h n) fun m => ?_
    rw [a.fresh c m n] at h; cases h
  · by_cases m : c ∈ μ1
    · exact a.fresh c m n
    · cases q : H c with
      | none => rfl
      | some o =>
        have z := b.fresh c h m
        rw [a.fr c o q n] at z; cases z
  · refine b.nf c o (a.nf c o h1 h2 n) (a.fr c o h2 n) fun m => ?_
    rw [a.fresh c m n] at h2; cases h2
theorem Go.rep {μ μ' : List Addr} {F H F' H' : Hp} (g : Go μ F H μ' F' H') {d : D} {v : V} (h : Rep μ F d v) : Rep μ' F' d v := Rep.mono g.pre g.ex d v h
theorem Go.reps {μ μ' : List Addr} {F H F' H' : Hp} (g : Go μ F H μ' F' H') {d : List D} {v : List V} (h : Reps μ F d v) : Reps μ' F' d v := Reps.mono g.pre g.ex d v h

abbrev Env := List (Option D)
structure EnvRep (μ : List Addr) (F : Hp) (env : Env) (σ : L2.St) : Prop where
  len : σ.length = env.length
  get : ∀ (i : Nat) (d : D), env[i]? = some (some d) → ∃ v, σ[i]? = some (some v) ∧ Rep μ F d v
theorem Go.env {μ μ' : List Addr} {F H F' H' : Hp} (g : Go μ F H μ' F' H') {env : Env} {σ : L2.St} (h : EnvRep μ F env σ) : EnvRep μ' F' env σ :=
  ⟨h.len, fun i d e => let ⟨v, q, r⟩ := h.get i d e; ⟨v, q, g.rep r⟩⟩
theorem EnvRep.set {μ : List Addr} {F : Hp} {env : Env} {σ : L2.St} (h : EnvRep μ F env σ) (i : Nat) {d : D} {v : V} (r : Rep μ F d v) : EnvRep μ F (env.set i (some d)) (σ.set i (some v)) := by
  refine ⟨by simp [h.len], fun j e q => ?_⟩
  by_cases hj : i = j
  · subst hj
    by_cases hi : i < env.length
    · rw [List.getElem?_set_self hi] at q
      cases q
      exact ⟨v, by rw [List.getElem?_set_self (by rw [h.len]; exact hi)], r⟩
    · rw [List.getElem?_eq_none (by simpa using hi)] at q; cases q
  · rw [List.getElem?_set_ne hj] at q ⊢
    exact h.get j e q
theorem EnvRep.forget {μ : List Addr} {F : Hp} {env : Env} {σ : L2.St} (h : EnvRep μ F env σ) (i : Nat) (x : Option V) : EnvRep μ F (env.set i none) (σ.set i x) := by
  refine ⟨by simp [h.len], fun j e q => ?_⟩
  by_cases hj : i = j
  · subst hj
    by_cases hi : i < env.length
    · rw [List.getElem?_set_self hi] at q; cases q
    · rw [List.getElem?_eq_none (by simpa using hi)] at q; cases q
  · rw [List.getElem?_set_ne hj] at q ⊢
    exact h.get j e q

/-! ### results -/
inductive R (α : Type) where
  | ok (a : α) (S : Store) | err (c : Nat) (S : Store) | stuck
abbrev M (α : Type) := Store → R α
def ret {α : Type} (a : α) : M α := fun S => .ok a S
def stk {α : Type} : M α := fun _ => .stuck
def bnd {α β : Type} (m : M α) (f : α → M β) : M β := fun S => match m S with
  | .ok a S' => f a S'
  | .err c S' => .err c S'
  | .stuck => .stuck
/-- a value that may lack -/
def opt {α : Type} (o : Option α) : M α := fun S => match o with
  | some a => .ok a S
  | none => .stuck

section
variable (C : Nat → Addr) (W : WX)
def Post {α : Type} (μ : List Addr) (F H : Hp) (σ : L2.St) (r : R α) (k : α → List Addr → Hp → Hp → Prop) : Prop := match r with
  | .ok a S' => ∀ μ' F' H', Go μ F H μ' F' H' → Sim S' μ' F' H' → k a μ' F' H'
  | .err c S' => ∀ μ' F' H', Go μ F H μ' F' H' → Sim S' μ' F' H' → W (.ref (C c)) none σ H'
  | .stuck => False
def Snd {α β : Type} (rel : List Addr → Hp → Hp → α → β → Prop) (t : L2.St → Hp → (β → Hp → Prop) → Prop) (m : Env → M α) : Prop :=
  ∀ σ env S μ F H, EnvRep μ F env σ → Sim S μ F H → ∀ Q : β → Hp → Prop, Post C W μ F H σ (m env S) (fun a μ' F' H' => ∀ b, rel μ' F' H' a b → Q b H') → t σ H Q
end
section
variable {C : Nat → Addr} {W : WX}
theorem Post.rebase {α : Type} {μ μ1 : List Addr} {F H F1 H1 : Hp} {σ : L2.St} {r : R α} {k : α → List Addr → Hp → Hp → Prop} (g : Go μ F H μ1 F1 H1) (p : Post C W μ F H σ r k) : Post C W μ1 F1 H1 σ r k := by
  cases r with
  | ok a S' => exact fun μ' F' H' g' s => p μ' F' H' (g.trans g') s
  | err c S' => exact fun μ' F' H' g' s => p μ' F' H' (g.trans g') s
  | stuck => exact p
theorem Snd.bind {α β γ : Type} {rel : List Addr → Hp → Hp → α → β → Prop} {t : L2.St → Hp → (β → Hp → Prop) → Prop} {m : Env → M α} {f : α → M γ} {k : γ → List Addr → Hp → Hp → Prop} {Q : β → Hp → Prop}
    {σ : L2.St} {env : Env} {S : Store} {μ : List Addr} {F H : Hp} (h : Snd C W rel t m) (E : EnvRep μ F env σ) (s : Sim S μ F H) (P : Post C W μ F H σ (bnd (m env) f S) k)
    (hQ : ∀ a b S1 μ1 F1 H1, Go μ F H μ1 F1 H1 → Sim S1 μ1 F1 H1 → EnvRep μ1 F1 env σ → rel μ1 F1 H1 a b → Post C W μ1 F1 H1 σ (f a S1) k → Q b H1) : t σ H Q := by
  refine h σ env S μ F H E s Q ?_
  unfold bnd at P
  generalize m env S = r at P
  cases r with
  | ok a S1 => exact fun μ1 F1 H1 g s1 b hb => hQ a b S1 μ1 F1 H1 g s1 (g.env E) hb (P.rebase g)
  | err c S1 => exact P
  | stuck => exact P
theorem Post.here {α : Type} {μ : List Addr} {F H : Hp} {σ : L2.St} {a : α} {S : Store} {k : α → List Addr → Hp → Hp → Prop} (p : Post C W μ F H σ (ret a S) k) (s : Sim S μ F H) : k a μ F H := p μ F H (Go.refl _ _ _) s
theorem Post.opt {α : Type} {μ : List Addr} {F H : Hp} {σ : L2.St} {o : Option α} {S : Store} {k : α → List Addr → Hp → Hp → Prop} (p : Post C W μ F H σ (opt o S) k) (s : Sim S μ F H) : ∃ a, o = some a ∧ k a μ F H := by
  cases o with
  | none => exact False.elim p
  | some a => exact ⟨a, rfl, p μ F H (Go.refl _ _ _) s⟩
/-- a new frozen object -/
theorem Sim.laid {S : Store} {μ : List Addr} {F H : Hp} (s : Sim S μ F H) {p : Addr} {o : HO} (hp : H p = none) : Sim S μ (upd F p o) (upd H p o) ∧ Go μ F H μ (upd F p o) (upd H p o) := by
  have fp : F p = none := s.ext.free hp
  have eF : Ext F (upd F p o) := Ext.new fp
  have eH : Ext H (upd H p o) := Ext.new hp
  refine ⟨⟨s.len, s.nd, fun a u h => ?_, fun a m z => s.up a m (eH.free z), fun n ob a h1 h2 => ?_⟩, List.prefix_refl _, eF, fun b u h _ => eH b u h, fun _ h n => absurd h n, fun b u h1 h2 _ => by rw [upd_ne (ne_of_none h2 hp)]; exact h1⟩
  · by_cases e : a = p
    · subst e; rw [upd_same] at h ⊢; exact h
    · rw [upd_ne e] at h ⊢; exact s.ext a u h
  · have q := s.obj n ob a h1 h2
    cases ob with
    | lst ds =>
      obtain ⟨vs, q1, q2, q3, q5⟩ := q
      have ne : a ≠ p := ne_of_none q1 hp
      exact ⟨vs, by rw [upd_ne ne]; exact q1, Reps.mono (List.prefix_refl _) eF _ _ q2, by rw [upd_ne ne]; exact q3, q5⟩
    | fz ds =>
      obtain ⟨vs, q1, q2, q5⟩ := q
      exact ⟨vs, eF _ _ q1, Reps.mono (List.prefix_refl _) eF _ _ q2, q5⟩
    | dic ks ds =>
      obtain ⟨vs, q1, q4, q2, q3, q5⟩ := q
      have ne : a ≠ p := ne_of_none q1 hp
      exact ⟨vs, by rw [upd_ne ne]; exact q1, q4, Reps.mono (List.prefix_refl _) eF _ _ q2, by rw [upd_ne ne]; exact q3, q5⟩
    | dead => exact True.intro
/-- a new object of the store -/
theorem Sim.own {S : Store} {μ : List Addr} {F H : Hp} (s : Sim S μ F H) {p : Addr} {o : HO} {ob : Ob} (hp : H p = none) (hr : ObRep (μ ++ [p]) F (upd H p o) p ob) :
    Sim (S ++ [ob]) (μ ++ [p]) F (upd H p o) ∧ Go μ F H (μ ++ [p]) F (upd H p o) := by
  have fp : F p = none := s.ext.free hp
  have eH : Ext H (upd H p o) := Ext.new hp
  have pre : μ <+: μ ++ [p] := List.prefix_append _ _
  have hnm : p ∉ μ := fun m => s.up p m hp
  refine ⟨⟨by simp [s.len], ?_, s.ext.trans eH, fun a m z => ?_, fun n ob' a h1 h2 => ?_⟩, pre, Ext.refl _, fun b u h _ => eH b u h, fun b h n => ?_, fun _ _ h _ _ => h⟩
  · rw [List.nodup_append]
    refine ⟨s.nd, by simp, fun a ha b hb e => ?_⟩
    simp at hb
    subst hb; subst e
    exact hnm ha
  · rcases List.mem_append.mp m with m | m
    · exact s.up a m (eH.free z)
    · simp at m
      subst m
      rw [upd_same] at z; cases z
  · by_cases hn : n < S.length
    · rw [List.getElem?_append_left hn] at h1
      rw [List.getElem?_append_left (by rw [s.len]; exact hn)] at h2
      have q := s.obj n ob' a h1 h2
      cases ob' with
      | lst ds =>
        obtain ⟨vs, q1, q2, q3⟩ := q
        exact ⟨vs, eH _ _ q1, Reps.mono pre (Ext.refl _) _ _ q2, q3⟩
      | fz ds =>
        obtain ⟨vs, q1, q2, q3⟩ := q
        exact ⟨vs, q1, Reps.mono pre (Ext.refl _) _ _ q2, q3⟩
      | dic ks ds =>
        obtain ⟨vs, q1, q4, q2, q3⟩ := q
        exact ⟨vs, eH _ _ q1, q4, Reps.mono pre (Ext.refl _) _ _ q2, q3⟩
      | dead => exact True.intro
    · have en : n = S.length := by
        have := (List.getElem?_eq_some_iff.mp h1).1
        simp at this; omega
      subst en
      rw [List.getElem?_append_right (Nat.le_refl _)] at h1
      rw [List.getElem?_append_right (by rw [s.len]; exact Nat.le_refl _)] at h2
      simp at h1 h2
      rw [s.len] at h2
      simp at h2
      subst h1; subst h2
      exact hr
  · simp at h
    rcases h with h | h
    · exact absurd h n
    · subst h; exact hp
/-- an object of the store is written -/
theorem Sim.put {S : Store} {μ : List Addr} {F H : Hp} (s : Sim S μ F H) {n : Nat} {p : Addr} {o : HO} {ob : Ob} (hm : μ[n]? = some p) (hf : F p = none) (hr : ObRep μ F (upd H p o) p ob) :
    Sim (S.set n ob) μ F (upd H p o) ∧ Go μ F H μ F (upd H p o) := by
  have hn : n < μ.length := (List.getElem?_eq_some_iff.mp hm).1
  have mem : p ∈ μ := List.mem_of_getElem? hm
  refine ⟨⟨by simp [s.len], s.nd, fun a u h => ?_, fun a m z => ?_, fun m ob' a h1 h2 => ?_⟩, List.prefix_refl _, Ext.refl _, fun b u h nb => ?_, fun _ h n => absurd h n, fun _ _ h _ _ => h⟩
  rotate_left
  · by_cases e : a = p
    · subst e; rw [upd_same] at z; cases z
    · rw [upd_ne e] at z; exact s.up a m z
  rotate_right
  · rw [upd_ne fun e => by rw [e, hf] at h; cases h]
    exact s.ext a u h
  · by_cases e : n = m
    · subst e
      rw [List.getElem?_set_self (by rw [← s.len]; exact hn)] at h1
      cases h1
      rw [hm] at h2; cases h2
      exact hr
    · rw [List.getElem?_set_ne e] at h1
      have ne : a ≠ p := fun z => by
        subst z
        obtain ⟨i1, e1⟩ := List.getElem?_eq_some_iff.mp hm
        obtain ⟨i2, e2⟩ := List.getElem?_eq_some_iff.mp h2
        exact e ((List.getElem_inj s.nd).mp (e1.trans e2.symm))
      have q := s.obj m ob' a h1 h2
      cases ob' with
      | lst ds =>
        obtain ⟨vs, q1, q2⟩ := q
        exact ⟨vs, by rw [upd_ne ne]; exact q1, q2⟩
      | fz ds => exact q
      | dic ks ds =>
        obtain ⟨vs, q1, q2⟩ := q
        exact ⟨vs, by rw [upd_ne ne]; exact q1, q2⟩
      | dead => exact True.intro
  · rw [upd_ne fun e => nb (by rw [e]; exact mem)]; exact h
/-- an object of the store is frozen -/
theorem Sim.freeze {S : Store} {μ : List Addr} {F H : Hp} (s : Sim S μ F H) {n : Nat} {p : Addr} {ds : List D} (hm : μ[n]? = some p) (hS : S[n]? = some (.lst ds)) :
    ∃ vs, Sim (S.set n (.fz ds)) μ (upd F p (.lst vs)) H ∧ Go μ F H μ (upd F p (.lst vs)) H ∧ Reps μ (upd F p (.lst vs)) ds vs ∧ upd F p (.lst vs) p = some (.lst vs) := by
  obtain ⟨vs, q1, q2, q3, q5⟩ := s.obj n _ p hS hm
  have eF : Ext F (upd F p (.lst vs)) := Ext.new q3
  have r2 := Reps.mono (List.prefix_refl μ) eF _ _ q2
  refine ⟨vs, ⟨by simp [s.len], s.nd, fun a u h => ?_, s.up, fun m ob' a h1 h2 => ?_⟩, ⟨List.prefix_refl _, eF, fun b u h _ => h, fun _ h n => absurd h n, fun b u h1 _ nb => by rw [upd_ne fun e => nb (by rw [e]; exact List.mem_of_getElem? hm)]; exact h1⟩, r2, upd_same⟩
  · by_cases e : a = p
    · subst e; rw [upd_same] at h; rw [q1]; exact h
    · rw [upd_ne e] at h; exact s.ext a u h
  · by_cases e : n = m
    · subst e
      rw [List.getElem?_set_self (List.getElem?_eq_some_iff.mp hS).1] at h1
      cases h1
      rw [hm] at h2; cases h2
      exact ⟨vs, upd_same, r2, q5⟩
    · rw [List.getElem?_set_ne e] at h1
      have ne : a ≠ p := fun z => by
        subst z
        obtain ⟨i1, e1⟩ := List.getElem?_eq_some_iff.mp hm
        obtain ⟨i2, e2⟩ := List.getElem?_eq_some_iff.mp h2
        exact e ((List.getElem_inj s.nd).mp (e1.trans e2.symm))
      have q := s.obj m ob' a h1 h2
      cases ob' with
      | lst ds =>
        obtain ⟨ws, q1, q2, q3, q6⟩ := q
        exact ⟨ws, q1, Reps.mono (List.prefix_refl _) eF _ _ q2, by rw [upd_ne ne]; exact q3, q6⟩
      | fz ds =>
        obtain ⟨ws, q1, q2, q6⟩ := q
        exact ⟨ws, eF _ _ q1, Reps.mono (List.prefix_refl _) eF _ _ q2, q6⟩
      | dic ks ds =>
        obtain ⟨ws, q1, q4, q2, q3, q6⟩ := q
        exact ⟨ws, q1, q4, Reps.mono (List.prefix_refl _) eF _ _ q2, by rw [upd_ne ne]; exact q3, q6⟩
      | dead => exact True.intro
end
end Mir

set_option Elab.async false
set_option maxRecDepth 100000
set_option linter.all false
set_option maxHeartbeats 4000000

namespace Mir
open PySem PySem.Spec PyProof.Rows L2

abbrev relD : List Addr → Hp → Hp → D → V → Prop := fun μ F _ d v => Rep μ F d v
abbrev relB : List Addr → Hp → Hp → Bool → Bool → Prop := fun _ _ _ b c => c = b
abbrev relL : List Addr → Hp → Hp → List D → List V → Prop := fun μ F _ d v => Reps μ F d v
abbrev relO : List Addr → Hp → Hp → Option Int → Option Int → Prop := fun _ _ _ b c => c = b

structure PV (X : Cx) (C : Nat → Addr) (W : WX) (e : Expr) (m : Env → M D) (te : TE) : Prop where
  pe : PE X e te
  snd : Snd C W relD te m
structure PB (X : Cx) (C : Nat → Addr) (W : WX) (e : Expr) (m : Env → M Bool) (te : TT) : Prop where
  pt : PT X e te
  snd : Snd C W relB te m
structure PBW (X : Cx) (C : Nat → Addr) (W : WX) (e : Expr) (m : Env → M Bool) (te : TT) : Prop where
  pw : PW X e te
  snd : Snd C W relB te m
/-- what the arguments come to, from the left -/
def mArgs : List (Env → M D) → Env → M (List D)
  | [], _ => ret []
  | m :: ms, env => bnd (m env) fun a => bnd (mArgs ms env) fun r => ret (a :: r)
structure PL (X : Cx) (C : Nat → Addr) (W : WX) (es : List Expr) (ms : List (Env → M D)) (ta : TA) : Prop where
  pa : PA X es ta
  snd : Snd C W relL ta (mArgs ms)

section
variable {X : Cx} {C : Nat → Addr} {W : WX} {e a b c : Expr} {es rest : List Expr} {te ta tb tc : TE} {m ma mb mc : Env → M D} {ms : List (Env → M D)} {pos : Pos} {t : TA}

/-! ### names, constants -/
def mVar (i : Nat) : Env → M D := fun env => opt (env[i]?.join)
def mK (d : D) : Env → M D := fun _ => ret d
theorem pv_var {i : Nat} (h : PE X e (tVar i)) : PV X C W e (mVar i) (tVar i) := by
  refine ⟨h, fun σ env S μ F H E s Q P => ?_⟩
  obtain ⟨d, e1, k⟩ := Post.opt P s
  have e2 : env[i]? = some (some d) := by
    cases q : env[i]? with
    | none => rw [q] at e1; cases e1
    | some o => rw [q] at e1; exact congrArg some e1
  obtain ⟨v, q1, q2⟩ := E.get i d e2
  exact ⟨v, q1, k v q2⟩
theorem pv_int {i : Int} {j} : PV X C W (.Constant (.int i) j pos) (mK (.int i)) (tC (.int i)) :=
  ⟨pe_int, fun σ env S μ F H E s Q P => Post.here P s _ (by simp only [Rep])⟩
theorem pv_bl {i : Bool} {j} : PV X C W (.Constant (.bool i) j pos) (mK (.bl i)) (tC (.bl i)) :=
  ⟨pe_bl, fun σ env S μ F H E s Q P => Post.here P s _ (by simp only [Rep])⟩
theorem pv_non {j} : PV X C W (.Constant .none j pos) (mK .non) (tC .non) :=
  ⟨pe_non, fun σ env S μ F H E s Q P => Post.here P s _ (by simp only [Rep])⟩
theorem pv_str {x : Str} {j} : PV X C W (.Constant (.str x) j pos) (mK (.str x)) (tC (.str x)) :=
  ⟨pe_str, fun σ env S μ F H E s Q P => Post.here P s _ (by simp only [Rep])⟩

/-! ### what is done with values -/
/-- one value, no other than by the store -/
def Fn1 (C : Nat → Addr) (W : WX) (r : V → Hp → VK → Prop) (g : D → M D) : Prop :=
  ∀ σ d v S μ F H (Q : VK), Sim S μ F H → Rep μ F d v → Post C W μ F H σ (g d S) (fun a μ' F' H' => ∀ b, Rep μ' F' a b → Q b H') → r v H Q
def Fn2 (C : Nat → Addr) (W : WX) (r : R2) (g : D → D → M D) : Prop :=
  ∀ σ d e v w S μ F H (Q : VK), Sim S μ F H → Rep μ F d v → Rep μ F e w → Post C W μ F H σ (g d e S) (fun a μ' F' H' => ∀ b, Rep μ' F' a b → Q b H') → r v w H Q
def FnL (C : Nat → Addr) (W : WX) (r : List V → Hp → VK → Prop) (g : List D → M D) : Prop :=
  ∀ σ ds vs S μ F H (Q : VK), Sim S μ F H → Reps μ F ds vs → Post C W μ F H σ (g ds S) (fun a μ' F' H' => ∀ b, Rep μ' F' a b → Q b H') → r vs H Q
def mUn (g : D → M D) (ma : Env → M D) : Env → M D := fun env => bnd (ma env) g
def mOp (g : D → D → M D) (ma mb : Env → M D) : Env → M D := fun env => bnd (ma env) fun x => bnd (mb env) fun y => g x y
theorem snd_un {r : V → Hp → VK → Prop} {g : D → M D} (hg : Fn1 C W r g) (ha : Snd C W relD ta ma) : Snd C W relD (tUn r ta) (mUn g ma) := fun σ env S μ F H E s Q P => by
  show ta σ H fun x H1 => r x H1 Q
  exact Snd.bind ha E s P fun d v S1 μ1 F1 H1 g1 s1 E1 r1 P1 => hg σ d v S1 μ1 F1 H1 Q s1 r1 P1
theorem snd_op {r : R2} {g : D → D → M D} (hg : Fn2 C W r g) (ha : Snd C W relD ta ma) (hb : Snd C W relD tb mb) : Snd C W relD (tOp r ta tb) (mOp g ma mb) := fun σ env S μ F H E s Q P => by
  show ta σ H fun x H1 => tb σ H1 fun y H2 => r x y H2 Q
  exact Snd.bind ha E s P fun d v S1 μ1 F1 H1 g1 s1 E1 r1 P1 => Snd.bind hb E1 s1 P1 fun d2 v2 S2 μ2 F2 H2 g2 s2 E2 r2 P2 => hg σ d d2 v v2 S2 μ2 F2 H2 Q s2 (g2.rep r1) r2 P2
theorem pv_op {op : Operator} {r : R2} {g : D → D → M D} (ho : OpR X (binaryOp op) r) (hg : Fn2 C W r g) (ha : PV X C W a ma ta) (hb : PV X C W b mb tb) : PV X C W (.BinOp a op b pos) (mOp g ma mb) (tOp r ta tb) :=
  ⟨pe_op ho ha.pe hb.pe, snd_op hg ha.snd hb.snd⟩
theorem pv_un {op : UnaryOp} {r : V → Hp → VK → Prop} {g : D → M D} (ho : UnR X (unaryOp op) r) (hg : Fn1 C W r g) (ha : PV X C W a ma ta) : PV X C W (.UnaryOp op a pos) (mUn g ma) (tUn r ta) :=
  ⟨pe_un ho ha.pe, snd_un hg ha.snd⟩
theorem pv_cmp {op : CmpOp} {r : R2} {g : D → D → M D} (ho : OpR X (compareOp op) r) (hg : Fn2 C W r g) (ha : PV X C W a ma ta) (hb : PV X C W b mb tb) (hm : behindInMarks op b = false) :
    PV X C W (.Compare a [op] [b] pos) (mOp g ma mb) (tOp r ta tb) := ⟨pe_cmpR ho ha.pe hb.pe hm, snd_op hg ha.snd hb.snd⟩

/-! ### tests -/
/-- a value that is True or False -/
def boolD (d : D) : M Bool := fun S => match d with
  | .bl b => .ok b S
  | _ => .stuck
def mTest (ma : Env → M D) : Env → M Bool := fun env => bnd (ma env) boolD
theorem snd_test {ta : TE} (ha : Snd C W relD ta ma) : Snd C W relB (tB ta) (mTest ma) := fun σ env S μ F H E s Q P => by
  show ta σ H fun x H1 => ∃ c, x = .bl c ∧ Q c H1
  refine Snd.bind ha E s P fun d v S1 μ1 F1 H1 g1 s1 E1 r1 P1 => ?_
  cases d with
  | bl k =>
    simp only [relD, Rep] at r1
    exact ⟨k, r1, P1 μ1 F1 H1 (Go.refl _ _ _) s1 k rfl⟩
  | _ => exact False.elim P1
theorem pb_val (ha : PV X C W e ma te) (he : ∀ whole, isTrue e X.env whole = (do let v ← whole; standAt e.pos; holding [v] (truthy v)) := by intro _; rfl) : PB X C W e (mTest ma) (tB te) := ⟨pt_val ha.pe he, snd_test ha.snd⟩
theorem pb_cmp {op : CmpOp} {r : R2} {g : D → D → M D} (ho : OpR X (compareOp op) r) (hg : Fn2 C W r g) (ha : PV X C W a ma ta) (hb : PV X C W b mb tb) (hm : behindInMarks op b = false) :
    PB X C W (.Compare a [op] [b] pos) (mTest (mOp g ma mb)) (tTest (tOp r ta tb)) := ⟨pt_cmpR ho ha.pe hb.pe hm, snd_test (snd_op hg ha.snd hb.snd)⟩
variable {tA tB' : TT} {mA mB : Env → M Bool}
def bAnd (mA mB : Env → M Bool) : Env → M Bool := fun env => bnd (mA env) fun x => if x = true then mB env else ret false
def bOr (mA mB : Env → M Bool) : Env → M Bool := fun env => bnd (mA env) fun x => if x = true then ret true else mB env
def bNot (mA : Env → M Bool) : Env → M Bool := fun env => bnd (mA env) fun x => ret (!x)
theorem pbw_and1 (ha : PB X C W a mA tA) : PBW X C W (.BoolOp .And [a] pos) mA tA := ⟨pw_and1 ha.pt, ha.snd⟩
theorem pbw_or1 (ha : PB X C W a mA tA) : PBW X C W (.BoolOp .Or [a] pos) mA tA := ⟨pw_or1 ha.pt, ha.snd⟩
theorem pbw_and (ha : PB X C W a mA tA) (hb : PBW X C W (.BoolOp .And (b :: rest) pos) mB tB') : PBW X C W (.BoolOp .And (a :: b :: rest) pos) (bAnd mA mB) (tAnd tA tB') := by
  refine ⟨pw_and ha.pt hb.pw, fun σ env S μ F H E s Q P => ?_⟩
  show tA σ H fun c H1 => if c = true then tB' σ H1 Q else Q false H1
  refine Snd.bind ha.snd E s P fun x y S1 μ1 F1 H1 g1 s1 E1 r1 P1 => ?_
  cases r1
  cases x with
  | true => exact hb.snd σ env S1 μ1 F1 H1 E1 s1 Q P1
  | false => exact Post.here P1 s1 _ rfl
theorem pbw_or (ha : PB X C W a mA tA) (hb : PBW X C W (.BoolOp .Or (b :: rest) pos) mB tB') : PBW X C W (.BoolOp .Or (a :: b :: rest) pos) (bOr mA mB) (tOr tA tB') := by
  refine ⟨pw_or ha.pt hb.pw, fun σ env S μ F H E s Q P => ?_⟩
  show tA σ H fun c H1 => if c = true then Q true H1 else tB' σ H1 Q
  refine Snd.bind ha.snd E s P fun x y S1 μ1 F1 H1 g1 s1 E1 r1 P1 => ?_
  cases r1
  cases x with
  | false => exact hb.snd σ env S1 μ1 F1 H1 E1 s1 Q P1
  | true => exact Post.here P1 s1 _ rfl
theorem PBW.pb {e : Expr} (h : PBW X C W e mA tA) : PB X C W e mA tA := ⟨h.pw.pt, h.snd⟩
theorem pb_not (ha : PB X C W a mA tA) : PB X C W (.UnaryOp .Not a pos) (bNot mA) (tNot tA) := by
  refine ⟨pt_not ha.pt, fun σ env S μ F H E s Q P => ?_⟩
  show tA σ H fun c H1 => Q (!c) H1
  refine Snd.bind ha.snd E s P fun x y S1 μ1 F1 H1 g1 s1 E1 r1 P1 => ?_
  cases r1
  exact Post.here P1 s1 _ rfl
/-- and, or, not as values: all but the last are True or False -/
def mAnd (ma mb : Env → M D) : Env → M D := fun env => bnd (mTest ma env) fun x => if x = true then mb env else ret (.bl false)
def mOr (ma mb : Env → M D) : Env → M D := fun env => bnd (mTest ma env) fun x => if x = true then ret (.bl true) else mb env
def mNot (ma : Env → M D) : Env → M D := fun env => bnd (mTest ma env) fun x => ret (.bl (!x))
theorem pv_one {op} (ha : PV X C W a ma ta) : PV X C W (.BoolOp op [a] pos) ma ta := ⟨pe_one ha.pe, ha.snd⟩
theorem pv_and (ha : PV X C W a ma ta) (hb : PV X C W (.BoolOp .And (b :: rest) pos) mb tb) : PV X C W (.BoolOp .And (a :: b :: rest) pos) (mAnd ma mb) (tAndV ta tb) := by
  refine ⟨pe_and ha.pe hb.pe, fun σ env S μ F H E s Q P => ?_⟩
  show tB ta σ H fun c H1 => if c = true then tb σ H1 Q else Q (.bl false) H1
  refine Snd.bind (snd_test ha.snd) E s P fun x y S1 μ1 F1 H1 g1 s1 E1 r1 P1 => ?_
  cases r1
  cases x with
  | true => exact hb.snd σ env S1 μ1 F1 H1 E1 s1 Q P1
  | false => exact Post.here P1 s1 _ (by simp only [relD, Rep])
theorem pv_or (ha : PV X C W a ma ta) (hb : PV X C W (.BoolOp .Or (b :: rest) pos) mb tb) : PV X C W (.BoolOp .Or (a :: b :: rest) pos) (mOr ma mb) (tOrV ta tb) := by
  refine ⟨pe_or ha.pe hb.pe, fun σ env S μ F H E s Q P => ?_⟩
  show tB ta σ H fun c H1 => if c = true then Q (.bl true) H1 else tb σ H1 Q
  refine Snd.bind (snd_test ha.snd) E s P fun x y S1 μ1 F1 H1 g1 s1 E1 r1 P1 => ?_
  cases r1
  cases x with
  | false => exact hb.snd σ env S1 μ1 F1 H1 E1 s1 Q P1
  | true => exact Post.here P1 s1 _ (by simp only [relD, Rep])
theorem pv_not (ha : PV X C W a ma ta) : PV X C W (.UnaryOp .Not a pos) (mNot ma) (tNotV ta) := by
  refine ⟨pe_not ha.pe, fun σ env S μ F H E s Q P => ?_⟩
  show tB ta σ H fun c H1 => Q (.bl (!c)) H1
  refine Snd.bind (snd_test ha.snd) E s P fun x y S1 μ1 F1 H1 g1 s1 E1 r1 P1 => ?_
  cases r1
  exact Post.here P1 s1 _ (by simp only [relD, Rep])
def mIf (mA : Env → M Bool) (ma mb : Env → M D) : Env → M D := fun env => bnd (mA env) fun x => if x = true then ma env else mb env
theorem pv_ifExp (hc : PB X C W c mA tA) (ha : PV X C W a ma ta) (hb : PV X C W b mb tb) : PV X C W (.IfExp c a b pos) (mIf mA ma mb) (tIf tA ta tb) := by
  refine ⟨pe_ifExp hc.pt ha.pe hb.pe, fun σ env S μ F H E s Q P => ?_⟩
  show tA σ H fun c H1 => if c = true then ta σ H1 Q else tb σ H1 Q
  refine Snd.bind hc.snd E s P fun x y S1 μ1 F1 H1 g1 s1 E1 r1 P1 => ?_
  cases r1
  cases x with
  | true => exact ha.snd σ env S1 μ1 F1 H1 E1 s1 Q P1
  | false => exact hb.snd σ env S1 μ1 F1 H1 E1 s1 Q P1
/-- a < b < c -/
def mChain (g g' : D → D → M D) (ma mb mc : Env → M D) : Env → M D := fun env => bnd (ma env) fun x => bnd (mb env) fun y => bnd (g x y) fun z => bnd (boolD z) fun k => if k = true then bnd (mc env) fun u => g' y u else ret (.bl false)
theorem snd_chain {r r' : R2} {g g' : D → D → M D} (hg : Fn2 C W r g) (hg' : Fn2 C W r' g') (ha : Snd C W relD ta ma) (hb : Snd C W relD tb mb) (hc : Snd C W relD tc mc) : Snd C W relD (tChain r r' ta tb tc) (mChain g g' ma mb mc) := fun σ env S μ F H E s Q P => by
    show ta σ H fun x H1 => tb σ H1 fun y H2 => r x y H2 fun z H3 => ∃ k, z = .bl k ∧ if k = true then tc σ H3 fun u H4 => r' y u H4 Q else Q (.bl false) H3
    refine Snd.bind ha E s P fun d v S1 μ1 F1 H1 g1 s1 E1 r1 P1 => Snd.bind hb E1 s1 P1 fun d2 v2 S2 μ2 F2 H2 g2 s2 E2 r2 P2 => ?_
    refine hg σ d d2 v v2 S2 μ2 F2 H2 _ s2 (g2.rep r1) r2 ?_
    unfold bnd at P2
    generalize g d d2 S2 = z at P2
    cases z with
    | err c S' => exact P2
    | stuck => exact P2
    | ok z S3 =>
      refine fun μ3 F3 H3 g3 s3 bz hz => ?_
      have P3 := P2.rebase g3
      cases z with
      | bl k =>
        simp only [Rep] at hz
        refine ⟨k, hz, ?_⟩
        cases k with
        | false => exact Post.here P3 s3 _ (by simp only [Rep])
        | true => exact Snd.bind hc (g3.env E2) s3 P3 fun d4 v4 S4 μ4 F4 H4 g4 s4 E4 r4 P4 => hg' σ d2 d4 v2 v4 S4 μ4 F4 H4 Q s4 (g4.rep (g3.rep r2)) r4 P4
      | _ => exact False.elim P3
theorem pv_chain {op op' : CmpOp} {r r' : R2} {g g' : D → D → M D} (ho : OpR X (compareOp op) r) (ho' : OpR X (compareOp op') r') (hg : Fn2 C W r g) (hg' : Fn2 C W r' g') (ha : PV X C W a ma ta) (hb : PV X C W b mb tb) (hc : PV X C W c mc tc)
    (hm : lastMarks [op, op'] [b, c] = false := by rfl) : PV X C W (.Compare a [op, op'] [b, c] pos) (mChain g g' ma mb mc) (tChain r r' ta tb tc) :=
  ⟨pe_chain ho ho' ha.pe hb.pe hc.pe hm, snd_chain hg hg' ha.snd hb.snd hc.snd⟩

/-! ### argument lists, displays -/
theorem pl_nil : PL X C W [] [] tNil := ⟨pa_nil, fun σ env S μ F H E s Q P => Post.here P s _ reps_nil⟩
theorem pl_cons (ha : PV X C W e m te) (hr : PL X C W es ms t) (hs : starEach (e :: es) X.env = (false, eval e X.env) :: starEach es X.env := by rfl) : PL X C W (e :: es) (m :: ms) (tCons te t) := by
  refine ⟨pa_cons ha.pe hr.pa hs, fun σ env S μ F H E s Q P => ?_⟩
  show te σ H fun x H1 => t σ H1 fun xs H2 => Q (x :: xs) H2
  refine Snd.bind ha.snd E s P fun d v S1 μ1 F1 H1 g1 s1 E1 r1 P1 => Snd.bind hr.snd E1 s1 P1 fun ds vs S2 μ2 F2 H2 g2 s2 E2 r2 P2 => ?_
  exact Post.here P2 s2 _ (Reps.cons (g2.rep r1) r2)
theorem mArgs_len : ∀ {ms : List (Env → M D)} {env : Env} {S S' : Store} {ds : List D}, mArgs ms env S = .ok ds S' → ds.length = ms.length
  | [], _, _, _, _, h => by cases h; rfl
  | m :: ms, env, S, S', ds, h => by
    unfold mArgs bnd at h
    cases q : m env S with
    | ok a S1 =>
      rw [q] at h
      dsimp only at h
      cases q2 : mArgs ms env S1 with
      | ok r S2 =>
        rw [q2] at h
        cases h
        simp [mArgs_len q2]
      | err c S2 => rw [q2] at h; cases h
      | stuck => rw [q2] at h; cases h
    | err c S1 => rw [q] at h; cases h
    | stuck => rw [q] at h; cases h
/-- the arguments, with their number -/
theorem Snd.args {γ : Type} {f : List D → M γ} {k : γ → List Addr → Hp → Hp → Prop} {Q : List V → Hp → Prop}
    {σ : L2.St} {env : Env} {S : Store} {μ : List Addr} {F H : Hp} (h : Snd C W relL t (mArgs ms)) (E : EnvRep μ F env σ) (s : Sim S μ F H) (P : Post C W μ F H σ (bnd (mArgs ms env) f S) k)
    (hQ : ∀ a b S1 μ1 F1 H1, a.length = ms.length → Go μ F H μ1 F1 H1 → Sim S1 μ1 F1 H1 → EnvRep μ1 F1 env σ → Reps μ1 F1 a b → Post C W μ1 F1 H1 σ (f a S1) k → Q b H1) : t σ H Q := by
  refine h σ env S μ F H E s Q ?_
  unfold bnd at P
  cases q : mArgs ms env S with
  | ok a S1 => rw [q] at P; exact fun μ1 F1 H1 g s1 b hb => hQ a b S1 μ1 F1 H1 (mArgs_len q) g s1 (g.env E) hb (P.rebase g)
  | err c S1 => rw [q] at P; exact P
  | stuck => rw [q] at P; exact P
def mTup (ms : List (Env → M D)) : Env → M D := fun env => bnd (mArgs ms env) fun ds => ret (.tup ds)
def mLst (ms : List (Env → M D)) : Env → M D := fun env => bnd (mArgs ms env) fun ds => ret (.lst ds)
/-- a list that is to be written: an object of the store -/
def mOwn (ms : List (Env → M D)) : Env → M D := fun env => bnd (mArgs ms env) fun ds S => .ok (.ref S.length) (S ++ [.lst ds])
theorem rep_tup {μ : List Addr} {F : Hp} {ds : List D} {vs : List V} {p : Addr} (h : F p = some (.tup vs)) (r : Reps μ F ds vs) (z : ds.length ≤ sizeLine) : Rep μ F (.tup ds) (.ref p) := by simp only [Rep]; exact ⟨p, vs, rfl, h, z, r⟩
theorem rep_lst {μ : List Addr} {F : Hp} {ds : List D} {vs : List V} {p : Addr} (h : F p = some (.lst vs)) (r : Reps μ F ds vs) (z : ds.length ≤ sizeLine) : Rep μ F (.lst ds) (.ref p) := by simp only [Rep]; exact ⟨p, vs, rfl, .inl h, z, r⟩
theorem rep_ref {μ : List Addr} {F : Hp} {n : Nat} {p : Addr} (h : μ[n]? = some p) : Rep μ F (.ref n) (.ref p) := by simp only [Rep]; exact ⟨p, rfl, h⟩
/-- a new tuple's, list's wish -/
theorem new_tup {ds : List D} {vs : List V} {S : Store} {μ : List Addr} {F H : Hp} {σ : L2.St} {Q : VK} (s : Sim S μ F H) (r : Reps μ F ds vs) (z : ds.length ≤ sizeLine) (P : Post C W μ F H σ (.ok (.tup ds) S) (fun a μ' F' H' => ∀ b, Rep μ' F' a b → Q b H')) {p : Addr} (hp : H p = none) : Q (.ref p) (upd H p (.tup vs)) := by
  obtain ⟨s1, g1⟩ := s.laid (o := .tup vs) hp
  exact P μ _ _ g1 s1 _ (rep_tup upd_same (g1.reps r) z)
theorem new_lst {ds : List D} {vs : List V} {S : Store} {μ : List Addr} {F H : Hp} {σ : L2.St} {Q : VK} (s : Sim S μ F H) (r : Reps μ F ds vs) (z : ds.length ≤ sizeLine) (P : Post C W μ F H σ (.ok (.lst ds) S) (fun a μ' F' H' => ∀ b, Rep μ' F' a b → Q b H')) {p : Addr} (hp : H p = none) : Q (.ref p) (upd H p (.lst vs)) := by
  obtain ⟨s1, g1⟩ := s.laid (o := .lst vs) hp
  exact P μ _ _ g1 s1 _ (rep_lst upd_same (g1.reps r) z)
theorem new_own {ds : List D} {vs : List V} {S : Store} {μ : List Addr} {F H : Hp} {σ : L2.St} {Q : VK} (s : Sim S μ F H) (r : Reps μ F ds vs) (z : ds.length ≤ sizeLine) (P : Post C W μ F H σ (.ok (.ref S.length) (S ++ [.lst ds])) (fun a μ' F' H' => ∀ b, Rep μ' F' a b → Q b H')) {p : Addr} (hp : H p = none) : Q (.ref p) (upd H p (.lst vs)) := by
  have fp : F p = none := s.ext.free hp
  obtain ⟨s1, g1⟩ := s.own (o := .lst vs) (ob := .lst ds) hp ⟨vs, upd_same, Reps.mono (List.prefix_append _ _) (Ext.refl _) _ _ r, fp, z⟩
  refine P _ _ _ g1 s1 _ (rep_ref ?_)
  rw [← s.len, List.getElem?_append_right (Nat.le_refl _)]
  simp
theorem pv_tup {x1} (h : PL X C W es ms t) (hz : ms.length ≤ sizeLine := by decide) : PV X C W (.Tuple es x1 pos) (mTup ms) (tTup t) := by
  refine ⟨pe_tup h.pa, fun σ env S μ F H E s Q P => ?_⟩
  refine Snd.args h.snd E s P fun ds vs S1 μ1 F1 H1 l g1 s1 E1 r1 P1 => ⟨by rw [← r1.length, l]; exact hz, fun p hp => new_tup s1 r1 (by rw [l]; exact hz) P1 hp⟩
theorem pv_lst (h : PL X C W es ms t) (hz : ms.length ≤ sizeLine := by decide) : PV X C W (.List es pos) (mLst ms) (tLst t) := by
  refine ⟨pe_lst h.pa, fun σ env S μ F H E s Q P => ?_⟩
  refine Snd.args h.snd E s P fun ds vs S1 μ1 F1 H1 l g1 s1 E1 r1 P1 => ⟨by rw [← r1.length, l]; exact hz, fun p hp => new_lst s1 r1 (by rw [l]; exact hz) P1 hp⟩
theorem pv_own (h : PL X C W es ms t) (hz : ms.length ≤ sizeLine := by decide) : PV X C W (.List es pos) (mOwn ms) (tLst t) := by
  refine ⟨pe_lst h.pa, fun σ env S μ F H E s Q P => ?_⟩
  refine Snd.args h.snd E s P fun ds vs S1 μ1 F1 H1 l g1 s1 E1 r1 P1 => ⟨by rw [← r1.length, l]; exact hz, fun p hp => new_own s1 r1 (by rw [l]; exact hz) P1 hp⟩

/-! ### built-ins by their name -/
def mCall (g : List D → M D) (ms : List (Env → M D)) : Env → M D := fun env => bnd (mArgs ms env) g
theorem snd_call {r : List V → Hp → VK → Prop} {g : List D → M D} (hg : FnL C W r g) (ha : Snd C W relL t (mArgs ms)) : Snd C W relD (tCB r t) (mCall g ms) := fun σ env S μ F H E s Q P =>
  (show t σ H fun vs H1 => r vs H1 Q from Snd.bind ha E s P fun d v S1 μ1 F1 H1 g1 s1 E1 r1 P1 => hg σ d v S1 μ1 F1 H1 Q s1 r1 P1)
variable {x : Str} {p : Pos} {id T : String} {r : List V → Hp → VK → Prop} {g : List D → M D}
theorem pv_callB (hc : CallR X (.builtin id) r) (hg : FnL C W r g) (hgl : Gl X x) (hm : X.mg x = none) (hv : bootBuiltins x = some (.builtin id)) (ha : PL X C W (e :: es) ms t) (hn : x ≠ "__name__" := by decide) (hdb : (x == ("__debug__" : Str)) = false := by decide)
    (he : starEach (e :: es) X.env = (false, eval e X.env) :: starEach es X.env := by rfl) (hpl : (backTo pos (starEach es X.env)).any (·.1) = false := by rfl) : PV X C W (.Call (.Name x p) (e :: es) [] pos) (mCall g ms) (tCB r t) :=
  ⟨pe_callB hc hgl hm hv ha.pa hn hdb he hpl, snd_call hg ha.snd⟩
theorem pv_callTy (hc : CallR X (.type T) r) (hg : FnL C W r g) (hgl : Gl X x) (hm : X.mg x = none) (hv : bootBuiltins x = some (.type T)) (ha : PL X C W (e :: es) ms t) (hn : x ≠ "__name__" := by decide) (hdb : (x == ("__debug__" : Str)) = false := by decide)
    (he : starEach (e :: es) X.env = (false, eval e X.env) :: starEach es X.env := by rfl) (hpl : (backTo pos (starEach es X.env)).any (·.1) = false := by rfl) : PV X C W (.Call (.Name x p) (e :: es) [] pos) (mCall g ms) (tCB r t) :=
  ⟨pe_callTy hc hgl hm hv ha.pa hn hdb he hpl, snd_call hg ha.snd⟩

/-! ### a subscript, a slice, a method of a built-in type -/
theorem pv_ix {r : R2} {g : D → D → M D} (hr : IxR X r) (hg : Fn2 C W r g) (ha : PV X C W a ma ta) (hb : PV X C W b mb tb) (hs : PlainIx b := by exact fun _ _ => rfl) : PV X C W (.Subscript a b pos) (mOp g ma mb) (tOp r ta tb) :=
  ⟨pe_ix hr ha.pe hb.pe hs, snd_op hg ha.snd hb.snd⟩
structure PVO (X : Cx) (C : Nat → Addr) (W : WX) (e : Option Expr) (m : Env → M (Option Int)) (te : TO) : Prop where
  po : PO X e te
  snd : Snd C W relO te m
def mNoPart : Env → M (Option Int) := fun _ => ret none
def intD (d : D) : M Int := fun S => match d with
  | .int i => .ok i S
  | _ => .stuck
def mPart (ma : Env → M D) : Env → M (Option Int) := fun env => bnd (ma env) fun d => bnd (intD d) fun i => ret (some i)
theorem pvo_none : PVO X C W none mNoPart tNoPart := ⟨po_none, fun σ env S μ F H E s Q P => Post.here P s _ rfl⟩
theorem pvo_some (h : PV X C W e ma te) : PVO X C W (some e) (mPart ma) (tPart te) := by
  refine ⟨po_some h.pe, fun σ env S μ F H E s Q P => ?_⟩
  show te σ H fun x H1 => ∃ i, x = .int i ∧ Q (some i) H1
  refine Snd.bind h.snd E s P fun d v S1 μ1 F1 H1 g1 s1 E1 r1 P1 => ?_
  cases d with
  | int i =>
    simp only [relD, Rep] at r1
    exact ⟨i, r1, P1 μ1 F1 H1 (Go.refl _ _ _) s1 _ rfl⟩
  | _ => exact False.elim P1
def FnSl (C : Nat → Addr) (W : WX) (r : V → Option Int → Option Int → Hp → VK → Prop) (g : D → Option Int → Option Int → M D) : Prop :=
  ∀ σ d v lo hi S μ F H (Q : VK), Sim S μ F H → Rep μ F d v → Post C W μ F H σ (g d lo hi S) (fun a μ' F' H' => ∀ b, Rep μ' F' a b → Q b H') → r v lo hi H Q
def mSl (g : D → Option Int → Option Int → M D) (ma : Env → M D) (ml mh : Env → M (Option Int)) : Env → M D := fun env => bnd (ma env) fun x => bnd (ml env) fun l => bnd (mh env) fun h => g x l h
theorem pv_slice {r : V → Option Int → Option Int → Hp → VK → Prop} {g : D → Option Int → Option Int → M D} {lo hi : Option Expr} {ml mh : Env → M (Option Int)} {tl th : TO} {p2 : Pos} (hr : SlR X r) (hg : FnSl C W r g) (he : PV X C W e ma te) (hl : PVO X C W lo ml tl) (hu : PVO X C W hi mh th) :
    PV X C W (.Subscript e (.Slice lo hi none p2) pos) (mSl g ma ml mh) (tSl r te tl th) := by
  refine ⟨pe_slice hr he.pe hl.po hu.po, fun σ env S μ F H E s Q P => ?_⟩
  show te σ H fun x H1 => tl σ H1 fun l H2 => th σ H2 fun u H3 => r x l u H3 Q
  refine Snd.bind he.snd E s P fun d v S1 μ1 F1 H1 g1 s1 E1 r1 P1 => Snd.bind hl.snd E1 s1 P1 fun l l' S2 μ2 F2 H2 g2 s2 E2 r2 P2 => Snd.bind hu.snd E2 s2 P2 fun h h' S3 μ3 F3 H3 g3 s3 E3 r3 P3 => ?_
  cases r2; cases r3
  exact hg σ d v l h S3 μ3 F3 H3 Q s3 (g3.rep (g2.rep r1)) P3
end
end Mir

set_option Elab.async false
set_option maxRecDepth 100000
set_option linter.all false
set_option maxHeartbeats 4000000

namespace Mir
open PySem PySem.Spec PyProof.Rows L2

/-! ### sequences -/
/-- the items of a tuple (true) or of a list (false) -/
def seqOf (S : Store) : D → Option (Bool × List D)
  | .tup ds => some (true, ds)
  | .lst ds => some (false, ds)
  | .ref n => match S[n]? with
    | some (.lst ds) => some (false, ds)
    | some (.fz ds) => some (false, ds)
    | _ => none
  | _ => none
def SeqAtH (b : Bool) (H : Hp) (a : Addr) (vs : List V) : Prop := (b = true ∧ H a = some (.tup vs)) ∨ (b = false ∧ Rd H a (.lst vs))
theorem seq_of {S : Store} {μ : List Addr} {F H : Hp} (s : Sim S μ F H) {d : D} {v : V} {b : Bool} {ds : List D} (r : Rep μ F d v) (e : seqOf S d = some (b, ds)) :
    ∃ a vs, v = .ref a ∧ Reps μ F ds vs ∧ SeqAtH b H a vs ∧ ds.length ≤ sizeLine := by
  cases d with
  | tup xs =>
    cases e
    simp only [Rep] at r
    obtain ⟨a, vs, e, q, z, r⟩ := r
    exact ⟨a, vs, e, r, .inl ⟨rfl, s.ext _ _ q⟩, z⟩
  | lst xs =>
    cases e
    simp only [Rep] at r
    obtain ⟨a, vs, e, q, z, r⟩ := r
    exact ⟨a, vs, e, r, .inr ⟨rfl, s.ext.rd q⟩, z⟩
  | ref n =>
    simp only [Rep] at r
    obtain ⟨a, ea, q⟩ := r
    dsimp only [seqOf] at e
    cases h : S[n]? with
    | none => rw [h] at e; cases e
    | some o =>
      rw [h] at e
      have z := s.obj n o a h q
      cases o with
      | lst xs =>
        cases e
        obtain ⟨vs, z1, z2, z3, z4⟩ := z
        exact ⟨a, vs, ea, z2, .inr ⟨rfl, .inl z1⟩, z4⟩
      | fz xs =>
        cases e
        obtain ⟨vs, z1, z2, z4⟩ := z
        exact ⟨a, vs, ea, z2, .inr ⟨rfl, .inl (s.ext _ _ z1)⟩, z4⟩
      | dic ks xs => cases e
      | dead => cases e
  | _ => cases e
theorem SeqAtH.sq {K : PySem.W.Frag} {b : Bool} {H : Hp} {a : Addr} {vs : List V} (h : SeqAtH b H a vs) : SqL K H a vs ∨ SqT K H a vs := by
  rcases h with ⟨_, h⟩ | ⟨_, h⟩
  · exact .inr (.inl (.inl h))
  · exact .inl (.inl h)
theorem SeqAtH.tup {b : Bool} {H : Hp} {a : Addr} {vs : List V} (h : SeqAtH b H a vs) (e : b = true) : H a = some (.tup vs) := by
  rcases h with ⟨_, h⟩ | ⟨z, h⟩
  · exact h
  · rw [z] at e; cases e
theorem SeqAtH.lst {b : Bool} {H : Hp} {a : Addr} {vs : List V} (h : SeqAtH b H a vs) (e : b = false) : Rd H a (.lst vs) := by
  rcases h with ⟨z, h⟩ | ⟨_, h⟩
  · rw [z] at e; cases e
  · exact h

/-! ### what a def computes -/
def spM (C : Nat → Addr) (n : Nat) (m : List D → M D) : Sp := fun vs H Q E => vs.length = n ∧ ∃ ds S μ F, Sim S μ F H ∧ Reps μ F ds vs ∧
  Post C (fun cls d _ H' => E cls d H') μ F H [] (m ds S) (fun a μ' F' H' => ∀ b, Rep μ' F' a b → Q b H')
/-- the def x of the module computes m -/
def FnM (P : Program) (w : World) (K : PySem.W.Frag) (mg : Str → Option Value) (base : Heap) (C : Nat → Addr) (k : Nat) (x : Str) (n : Nat) (m : List D → M D) : Prop :=
  ∃ f fd ps, mg x = some (.ref f) ∧ PySem.W.keepIn K (.ref f) = true ∧ Binds K fd ps [] ∧ ps.length = n ∧ FnOk P w K mg base (L2.CX P w) k f fd ps (spM C n m)
theorem FnM.mono {P : Program} {w : World} {K : PySem.W.Frag} {mg : Str → Option Value} {base : Heap} {C : Nat → Addr} {j k : Nat} {x : Str} {n : Nat} {m : List D → M D} (F : FnM P w K mg base C j x n m) (h : j ≤ k) : FnM P w K mg base C k x n m := by
  obtain ⟨f, fd, ps, h1, h2, h3, h4, h5⟩ := F
  exact ⟨f, fd, ps, h1, h2, h3, h4, h5.mono h⟩
section
variable {X : Cx} {C : Nat → Addr} {W : WX} {e : Expr} {es : List Expr} {ms : List (Env → M D)} {pos p : Pos} {t : TA} {x : Str}
theorem pv_call {k j n : Nat} {m : List D → M D} (F : FnM X.prog X.w X.K X.mg X.base C k x n m) (hr : Room j X.A) (hk : k ≤ j) (hg : Gl X x) (tk : Takes X W) (ha : PL X C W (e :: es) ms t) (hl : ms.length = n := by rfl) (hdb : (x == ("__debug__" : Str)) = false := by decide)
    (he : starEach (e :: es) X.env = (false, eval e X.env) :: starEach es X.env := by rfl) (hpl : (backTo pos (starEach es X.env)).any (·.1) = false := by rfl) :
    PV X C W (.Call (.Name x p) (e :: es) [] pos) (mCall m ms) (tCallS (spM C n m) (WE W) t) := by
  obtain ⟨f, fd, ps, h1, h2, h3, h4, h5⟩ := F
  refine ⟨pe_callS h5 (hr.mono hk) hg h1 h2 h3 (passAt tk) ha.pa hdb he hpl, fun σ env S μ F H E s Q P => ?_⟩
  show t σ H fun vs H1 => spM C n m vs H1 Q (WE W σ)
  refine Snd.args ha.snd E s P fun ds vs S1 μ1 F1 H1 l g1 s1 E1 r1 P1 => ?_
  refine ⟨by rw [← r1.length, l, hl], ds, S1, μ1, F1, s1, r1, ?_⟩
  cases q : m ds S1 with
  | ok a S2 => rw [q] at P1; exact P1
  | err c S2 => rw [q] at P1; exact P1
  | stuck => rw [q] at P1; exact P1
end

/-! ### statements -/
inductive RS where
  | nx (env : Env) (S : Store) | rt (d : D) (S : Store) | bk (env : Env) (S : Store) | ct (env : Env) (S : Store) | err (c : Nat) (env : Env) (S : Store) | stuck
abbrev MS := Env → Store → RS
section
variable (C : Nat → Addr) (W : WX)
def PostS (μ : List Addr) (F H : Hp) (r : RS) (D : Ends) : Prop := match r with
  | .nx env S => ∀ σ μ' F' H', Go μ F H μ' F' H' → Sim S μ' F' H' → EnvRep μ' F' env σ → D.nx σ H'
  | .bk env S => ∀ σ μ' F' H', Go μ F H μ' F' H' → Sim S μ' F' H' → EnvRep μ' F' env σ → D.bk σ H'
  | .ct env S => ∀ σ μ' F' H', Go μ F H μ' F' H' → Sim S μ' F' H' → EnvRep μ' F' env σ → D.ct σ H'
  | .rt d S => ∀ v μ' F' H', Go μ F H μ' F' H' → Sim S μ' F' H' → Rep μ' F' d v → D.rt v H'
  | .err c env S => ∀ σ μ' F' H', Go μ F H μ' F' H' → Sim S μ' F' H' → EnvRep μ' F' env σ → W (.ref (C c)) none σ H'
  | .stuck => False
def SndS (ts : TS) (m : MS) : Prop := ∀ σ env S μ F H, EnvRep μ F env σ → Sim S μ F H → ∀ D : Ends, PostS C W μ F H (m env S) D → ts D σ H
end
section
variable {C : Nat → Addr} {W : WX}
theorem PostS.rebase {μ μ1 : List Addr} {F H F1 H1 : Hp} {r : RS} {D : Ends} (g : Go μ F H μ1 F1 H1) (p : PostS C W μ F H r D) : PostS C W μ1 F1 H1 r D := by
  cases r with
  | nx env S => exact fun σ μ' F' H' g' s => p σ μ' F' H' (g.trans g') s
  | bk env S => exact fun σ μ' F' H' g' s => p σ μ' F' H' (g.trans g') s
  | ct env S => exact fun σ μ' F' H' g' s => p σ μ' F' H' (g.trans g') s
  | rt d S => exact fun v μ' F' H' g' s => p v μ' F' H' (g.trans g') s
  | err c env S => exact fun σ μ' F' H' g' s => p σ μ' F' H' (g.trans g') s
  | stuck => exact p
/-- an expression's value, then a statement's rest -/
def bndS {α : Type} (m : M α) (env : Env) (f : α → Store → RS) : Store → RS := fun S => match m S with
  | .ok a S' => f a S'
  | .err c S' => .err c env S'
  | .stuck => .stuck
theorem Snd.bindS {α β : Type} {rel : List Addr → Hp → Hp → α → β → Prop} {t : L2.St → Hp → (β → Hp → Prop) → Prop} {m : Env → M α} {f : α → Store → RS} {D : Ends} {Q : β → Hp → Prop}
    {σ : L2.St} {env : Env} {S : Store} {μ : List Addr} {F H : Hp} (h : Snd C W rel t m) (E : EnvRep μ F env σ) (s : Sim S μ F H) (P : PostS C W μ F H (bndS (m env) env f S) D)
    (hQ : ∀ a b S1 μ1 F1 H1, Go μ F H μ1 F1 H1 → Sim S1 μ1 F1 H1 → EnvRep μ1 F1 env σ → rel μ1 F1 H1 a b → PostS C W μ1 F1 H1 (f a S1) D → Q b H1) : t σ H Q := by
  refine h σ env S μ F H E s Q ?_
  unfold bndS at P
  generalize m env S = r at P
  cases r with
  | ok a S1 => exact fun μ1 F1 H1 g s1 b hb => hQ a b S1 μ1 F1 H1 g s1 (g.env E) hb (P.rebase g)
  | err c S1 => exact fun μ1 F1 H1 g s1 => P σ μ1 F1 H1 g s1 (g.env E)
  | stuck => exact P
end
structure PM (X : Cx) (C : Nat → Addr) (W : WX) (st : Stmt) (m : MS) (ts : TS) : Prop where
  ps : PS X st ts
  snd : SndS C W ts m
structure PMs (X : Cx) (C : Nat → Addr) (W : WX) (st : List Stmt) (m : MS) (ts : TS) : Prop where
  ps : PSs X st ts
  snd : SndS C W ts m
/-- one after the other -/
def sSeq (m n : MS) : MS := fun env S => match m env S with
  | .nx env' S' => n env' S'
  | r => r
def sNil : MS := fun env S => .nx env S
section
variable {X : Cx} {C : Nat → Addr} {W : WX} {st : Stmt} {sts : List Stmt} {m n : MS} {t u : TS} {e a b c : Expr} {te ta tb : TE} {me ma mb : Env → M D} {pos : Pos}
theorem pms_nil : PMs X C W [] sNil tNext := ⟨pss_nil, fun σ env S μ F H E s D P => P σ μ F H (Go.refl _ _ _) s E⟩
theorem snd_seq (h1 : SndS C W t m) (h2 : SndS C W u n) : SndS C W (tSeq t u) (sSeq m n) := fun σ env S μ F H E s D P => by
  refine h1 σ env S μ F H E s _ ?_
  unfold sSeq at P
  cases q : m env S with
  | nx env1 S1 =>
    rw [q] at P
    exact fun σ1 μ1 F1 H1 g1 s1 E1 => h2 σ1 env1 S1 μ1 F1 H1 E1 s1 D (PostS.rebase g1 P)
  | bk env1 S1 => rw [q] at P; exact P
  | ct env1 S1 => rw [q] at P; exact P
  | rt d S1 => rw [q] at P; exact P
  | err c env1 S1 => rw [q] at P; exact P
  | stuck => rw [q] at P; exact P
theorem pms_cons (h1 : PM X C W st m t) (h2 : PMs X C W sts n u) : PMs X C W (st :: sts) (sSeq m n) (tSeq t u) := ⟨pss_cons h1.ps h2.ps, snd_seq h1.snd h2.snd⟩
theorem pms_one (h1 : PM X C W st m t) : PMs X C W [st] m t := ⟨pss_one h1.ps, h1.snd⟩
def sBreak : MS := fun env S => .bk env S
def sCont : MS := fun env S => .ct env S
theorem pm_pass : PM X C W (.Pass pos) sNil tNext := ⟨ps_pass, pms_nil (X := X).snd⟩
theorem pm_break : PM X C W (.Break pos) sBreak tBreak := ⟨ps_break, fun σ env S μ F H E s D P => P σ μ F H (Go.refl _ _ _) s E⟩
theorem pm_continue : PM X C W (.Continue pos) sCont tCont := ⟨ps_continue, fun σ env S μ F H E s D P => P σ μ F H (Go.refl _ _ _) s E⟩
def sExpr (me : Env → M D) : MS := fun env => bndS (me env) env fun _ S => .nx env S
theorem pm_expr (he : PV X C W e me te) (hs : swapsWith e none pos.line X.env = pure false := by rfl) : PM X C W (.Expr e pos) (sExpr me) (tDrop te) := by
  refine ⟨ps_expr he.pe hs, fun σ env S μ F H E s D P => ?_⟩
  show te σ H fun _ H1 => D.nx σ H1
  exact Snd.bindS he.snd E s P fun d v S1 μ1 F1 H1 g1 s1 E1 r1 P1 => P1 σ μ1 F1 H1 (Go.refl _ _ _) s1 E1
def sRet (me : Env → M D) : MS := fun env => bndS (me env) env fun d S => .rt d S
theorem pm_ret (he : PV X C W e me te) : PM X C W (.Return (some e) pos) (sRet me) (tRet te) := by
  refine ⟨ps_ret he.pe, fun σ env S μ F H E s D P => ?_⟩
  show te σ H D.rt
  exact Snd.bindS he.snd E s P fun d v S1 μ1 F1 H1 g1 s1 E1 r1 P1 => P1 v μ1 F1 H1 (Go.refl _ _ _) s1 r1
def sRetN : MS := fun _ S => .rt .non S
theorem pm_retN : PM X C W (.Return none pos) sRetN tRetN := ⟨ps_retN, fun σ env S μ F H E s D P => P .non μ F H (Go.refl _ _ _) s (by simp only [Rep])⟩
def sIf (mc : Env → M Bool) (m n : MS) : MS := fun env => bndS (mc env) env fun b S => if b = true then m env S else n env S
theorem pm_if {xs ys : List Stmt} {tc : TT} {mc : Env → M Bool} (hc : PB X C W c mc tc) (h1 : PMs X C W xs m t) (h2 : PMs X C W ys n u) : PM X C W (.If c xs ys pos) (sIf mc m n) (tIfS tc t u) := by
  refine ⟨ps_if hc.pt h1.ps h2.ps, fun σ env S μ F H E s D P => ?_⟩
  show tc σ H fun b H1 => if b = true then t D σ H1 else u D σ H1
  refine Snd.bindS hc.snd E s P fun d v S1 μ1 F1 H1 g1 s1 E1 r1 P1 => ?_
  cases r1
  cases d with
  | true => exact h1.snd σ env S1 μ1 F1 H1 E1 s1 D P1
  | false => exact h2.snd σ env S1 μ1 F1 H1 E1 s1 D P1
/-- name = value -/
def sSet (i : Nat) (me : Env → M D) : MS := fun env => bndS (me env) env fun d S => .nx (env.set i (some d)) S
theorem snd_set {i : Nat} (he : Snd C W relD te me) : SndS C W (tAsg te (gName i)) (sSet i me) := fun σ env S μ F H E s D P => by
  show te σ H fun x H1 => D.nx (σ.set i (some x)) H1
  exact Snd.bindS he E s P fun d v S1 μ1 F1 H1 g1 s1 E1 r1 P1 => P1 _ μ1 F1 H1 (Go.refl _ _ _) s1 (E1.set i r1)
theorem pm_set {i : Nat} {x : Str} {pos' : Pos} (hN : X.N.Nodup) (hi : X.N[i]? = some x) (hx : Loc X.env.scope x) (he : PV X C W e me te) (hs : swapsWith e (some (.Name x pos')) pos.line X.env = pure false := by rfl)
    (hf : X.fn x = true ∨ X.env.scope.names.lookup x = some .local := by first | exact .inl rfl | exact .inr rfl | assumption) : PM X C W (.Assign [.Name x pos'] e pos) (sSet i me) (tAsg te (gName i)) := ⟨ps_set hN hi hx he.pe hs hf, snd_set he.snd⟩
/-- name op= value -/
def sAug (i : Nat) (g : D → D → M D) (me : Env → M D) : MS := fun env => bndS (mVar i env) env fun x => bndS (me env) env fun y => bndS (g x y) env fun z S => .nx (env.set i (some z)) S
theorem pm_aug {i : Nat} {x : Str} {op : Operator} {ti : TIp} {g : D → D → M D} {pos' : Pos} (hN : X.N.Nodup) (hi : X.N[i]? = some x) (hx : Loc X.env.scope x) (he : PV X C W e me te) (ho : PIp X op ti) (hg : Fn2 C W ti g)
    (hf : X.fn x = true ∨ X.env.scope.names.lookup x = some .local := by first | exact .inl rfl | exact .inr rfl | assumption) : PM X C W (.AugAssign (.Name x pos') op e pos) (sAug i g me) (tAug i te ti) := by
  refine ⟨ps_aug hN hi hx he.pe ho hf, fun σ env S μ F H E s D P => ?_⟩
  have P' : PostS C W μ F H (bndS (opt (env[i]?.join)) env (fun x => bndS (me env) env fun y => bndS (g x y) env fun z S => .nx (env.set i (some z)) S) S) D := P
  unfold bndS opt at P'
  cases q : env[i]?.join with
  | none => rw [q] at P'; exact False.elim P'
  | some d =>
    rw [q] at P'
    have e2 : env[i]? = some (some d) := by
      cases q2 : env[i]? with
      | none => rw [q2] at q; cases q
      | some o => rw [q2] at q; exact congrArg some q
    obtain ⟨v, v1, v2⟩ := E.get i d e2
    refine ⟨v, v1, ?_⟩
    have P2 : PostS C W μ F H (bndS (me env) env (fun y => bndS (g d y) env fun z S => .nx (env.set i (some z)) S) S) D := P'
    refine Snd.bindS he.snd E s P2 fun y w S1 μ1 F1 H1 g1 s1 E1 r1 P1 => ?_
    refine hg σ d y v w S1 μ1 F1 H1 _ s1 (g1.rep v2) r1 ?_
    unfold bndS at P1
    cases q3 : g d y S1 with
    | ok z S2 => rw [q3] at P1; exact fun μ2 F2 H2 g2 s2 bz hz => P1 _ μ2 F2 H2 g2 s2 ((g2.env E1).set i hz)
    | err c S2 => rw [q3] at P1; exact fun μ2 F2 H2 g2 s2 => P1 σ μ2 F2 H2 g2 s2 (g2.env E1)
    | stuck => rw [q3] at P1; exact P1
/-- a, b = x, y -/
def sPar (i j : Nat) (ms : List (Env → M D)) : MS := fun env => bndS (mArgs ms env) env fun ds S => match ds with
  | [x, y] => .nx ((env.set i (some x)).set j (some y)) S
  | _ => .stuck
theorem pm_par {i j : Nat} {x y : Str} {ms : List (Env → M D)} {tA : TA} {px py pt : Pos} {kt k2 pt2} (hc : X.calm = true) (hN : X.N.Nodup) (hi : X.N[i]? = some x) (hj : X.N[j]? = some y) (hij : i ≠ j)
    (hx : X.env.scope.names.lookup x = some .local) (hy : X.env.scope.names.lookup y = some .local) (ha : PL X C W [a, b] ms tA)
    (hw : swappedStores [.Tuple [.Name x px, .Name y py] kt pt] (.Tuple [a, b] k2 pt2) X.env = pure (some [x, y]))
    (hs : swapsWithSole [.Tuple [.Name x px, .Name y py] kt pt] (.Tuple [a, b] k2 pt2) pos.line X.env = pure false := by rfl) :
    PM X C W (.Assign [.Tuple [.Name x px, .Name y py] kt pt] (.Tuple [a, b] k2 pt2) pos) (sPar i j ms) (tPar i j tA) := by
  refine ⟨ps_par hc hN hi hj hij hx hy ha.pa hw hs, fun σ env S μ F H E s D P => ?_⟩
  show tA σ H fun vs H1 => ∃ v w, vs = [v, w] ∧ D.nx ((σ.set i (some v)).set j (some w)) H1
  refine Snd.bindS ha.snd E s P fun ds vs S1 μ1 F1 H1 g1 s1 E1 r1 P1 => ?_
  match ds, P1, r1 with
  | [], P1, _ => exact False.elim P1
  | [_], P1, _ => exact False.elim P1
  | _ :: _ :: _ :: _, P1, _ => exact False.elim P1
  | [x, y], P1, r1 =>
    obtain ⟨v, r, rfl, h1, h2⟩ := Reps.uncons r1
    obtain ⟨w, r, rfl, h3, h4⟩ := Reps.uncons h2
    cases h4.nil_inv
    exact ⟨v, w, rfl, P1 _ μ1 F1 H1 (Go.refl _ _ _) s1 ((E1.set i h1).set j h3)⟩

/-! ### targets -/
/-- a target's stores: is the slots that it writes -/
def SndG (g : TG) (f : D → Env → Store → Option Env) (is : List Nat) : Prop := ∀ σ env S μ F H v d env', EnvRep μ F env σ → Sim S μ F H → Rep μ F d v → f d env S = some env' →
  ∀ Q : L2.St → Hp → Prop, (∀ σ', EnvRep μ F env' σ' → σ'.length = σ.length → (∀ j, j ∉ is → σ'[j]? = σ[j]?) → Q σ' H) → g v σ H Q
def SndGs (g : TGs) (f : List D → Env → Store → Option Env) (is : List Nat) : Prop := ∀ σ env S μ F H vs ds env', EnvRep μ F env σ → Sim S μ F H → Reps μ F ds vs → f ds env S = some env' →
  ∀ Q : L2.St → Hp → Prop, (∀ σ', EnvRep μ F env' σ' → σ'.length = σ.length → (∀ j, j ∉ is → σ'[j]? = σ[j]?) → Q σ' H) → g vs σ H Q
structure PT1 (X : Cx) (tg : Expr) (f : D → Env → Store → Option Env) (is : List Nat) (g : TG) : Prop where
  pg : PG X tg g
  snd : SndG g f is
structure PT2 (X : Cx) (tg : List Expr) (f : List D → Env → Store → Option Env) (is : List Nat) (g : TGs) : Prop where
  pg : PGs X tg g
  snd : SndGs g f is
def gtN (i : Nat) : D → Env → Store → Option Env := fun d env _ => some (env.set i (some d))
theorem pt_name {i : Nat} {x : Str} (hN : X.N.Nodup) (hi : X.N[i]? = some x) (hx : Loc X.env.scope x) (hf : X.fn x = true ∨ X.env.scope.names.lookup x = some .local := by first | exact .inl rfl | exact .inr rfl | assumption) :
    PT1 X (.Name x pos) (gtN i) [i] (gName i) := by
  refine ⟨pg_name hN hi hx hf, fun σ env S μ F H v d env' E s r e Q k => ?_⟩
  cases e
  exact k _ (E.set i r) (by simp) fun j hj => List.getElem?_set_ne (fun z => hj (by simp [z]))
def gtNil : List D → Env → Store → Option Env := fun ds env _ => match ds with
  | [] => some env
  | _ => none
def gtCons (f : D → Env → Store → Option Env) (g : List D → Env → Store → Option Env) : List D → Env → Store → Option Env := fun ds env S => match ds with
  | [] => none
  | d :: r => match f d env S with
    | some env' => g r env' S
    | none => none
theorem pt_nil : PT2 X [] gtNil [] gNil := by
  refine ⟨pgs_nil, fun σ env S μ F H vs ds env' E s r e Q k => ?_⟩
  cases ds with
  | nil => cases e; cases r.nil_inv; exact ⟨rfl, k σ E rfl fun _ _ => rfl⟩
  | cons _ _ => cases e
theorem pt_cons {tg : Expr} {tgs : List Expr} {f : D → Env → Store → Option Env} {g : List D → Env → Store → Option Env} {is js : List Nat} {t1 : TG} {t2 : TGs} (h1 : PT1 X tg f is t1) (h2 : PT2 X tgs g js t2)
    (hs : (assignEach (tg :: tgs) X.env).map (·.2) = assign tg X.env :: (assignEach tgs X.env).map (·.2) := by rfl) : PT2 X (tg :: tgs) (gtCons f g) (is ++ js) (gCons t1 t2) := by
  refine ⟨pgs_cons h1.pg h2.pg hs, fun σ env S μ F H vs ds env' E s r e Q k => ?_⟩
  cases ds with
  | nil => cases e
  | cons d ds =>
    obtain ⟨v, vr, rfl, r1, r2⟩ := r.uncons
    simp only [gtCons] at e
    cases q : f d env S with
    | none => rw [q] at e; cases e
    | some env1 =>
      rw [q] at e
      refine ⟨v, vr, rfl, h1.snd σ env S μ F H v d env1 E s r1 q _ fun σ1 E1 l1 o1 => h2.snd σ1 env1 S μ F H vr ds env' E1 s r2 e _ fun σ2 E2 l2 o2 => k σ2 E2 (l2.trans l1) fun j hj => ?_⟩
      rw [o2 j fun z => hj (List.mem_append_right _ z), o1 j fun z => hj (List.mem_append_left _ z)]
def gtTup (n : Nat) (f : List D → Env → Store → Option Env) : D → Env → Store → Option Env := fun d env S => match seqOf S d with
  | some (true, ds) => if ds.length = n then f ds env S else none
  | _ => none
theorem pt_tup {es : List Expr} {k : Nat} {f : List D → Env → Store → Option Env} {is : List Nat} {t : TGs} {n : Nat} (hc : X.calm = true) (h : PT2 X es f is t)
    (hn : (assignEach es X.env).length = n := by rfl) (hst : (assignEach es X.env).findIdx? (·.1) = none := by rfl) : PT1 X (.Tuple es k pos) (gtTup n f) is (gTup X.K n t) := by
  refine ⟨pg_tup hc h.pg hn hst, fun σ env S μ F H v d env' E s r e Q k => ?_⟩
  unfold gtTup at e
  split at e
  · rename_i ds q
    obtain ⟨a, vs, rfl, r2, at1, z⟩ := seq_of s r q
    by_cases hl : ds.length = n
    · rw [if_pos hl] at e
      exact ⟨a, vs, rfl, .inl (.inl (at1.tup rfl)), by rw [← r2.length]; exact hl, h.snd σ env S μ F H vs ds env' E s r2 e Q k⟩
    · rw [if_neg hl] at e; cases e
  · cases e
/-- target = value -/
def sAsg (f : D → Env → Store → Option Env) (me : Env → M D) : MS := fun env => bndS (me env) env fun d S => match f d env S with
  | some env' => .nx env' S
  | none => .stuck
theorem pm_asg {tg : Expr} {f : D → Env → Store → Option Env} {is : List Nat} {g : TG} (he : PV X C W e me te) (hg : PT1 X tg f is g) (hs : swapsWithSole [tg] e pos.line X.env = pure false := by rfl) (hw : swappedStores [tg] e X.env = pure none := by rfl)
    (h1 : (assignEach [tg] X.env).map (·.2) = [assign tg X.env] := by rfl) : PM X C W (.Assign [tg] e pos) (sAsg f me) (tAsg te g) := by
  refine ⟨ps_asg he.pe hg.pg hs hw h1, fun σ env S μ F H E s D P => ?_⟩
  show te σ H fun x H1 => g x σ H1 D.nx
  refine Snd.bindS he.snd E s P fun d v S1 μ1 F1 H1 g1 s1 E1 r1 P1 => ?_
  cases q : f d env S1 with
  | none => rw [q] at P1; exact False.elim P1
  | some env' =>
    rw [q] at P1
    exact hg.snd σ env S1 μ1 F1 H1 v d env' E1 s1 r1 q _ fun σ' E' _ _ => P1 σ' μ1 F1 H1 (Go.refl _ _ _) s1 E'
/-- o[i] = v, by the store -/
def FnSet (t : TSet) (g : D → D → D → Store → Option Store) : Prop := ∀ o i d v w u S μ F H S' (Q : Hp → Prop), Sim S μ F H → Rep μ F o v → Rep μ F i w → Rep μ F d u → g o i d S = some S' →
  (∀ H', Go μ F H μ F H' → Sim S' μ F H' → Q H') → t v w u H Q
def sSub (mo mi : Env → M D) (me : Env → M D) (g : D → D → D → Store → Option Store) : MS := fun env => bndS (me env) env fun d => bndS (mo env) env fun o => bndS (mi env) env fun i S => match g o i d S with
  | some S' => .nx env S'
  | none => .stuck
theorem pm_sub {o i : Expr} {to ti : TE} {mo mi : Env → M D} {tset : TSet} {g : D → D → D → Store → Option Store} {p2 : Pos} (he : PV X C W e me te) (ho : PV X C W o mo to) (hi : PV X C W i mi ti) (hst : PSet X tset) (hg : FnSet tset g)
    (ha : ∀ v, assign (.Subscript o i p2) X.env v = (do
      let ov ← holding [v] (eval o X.env)
      let iv ← holding [v, ov] (eval i X.env)
      standAt p2
      holding [v, ov, iv] (setItem ov iv v)
      release [v, ov, iv] []) := by intro _; rfl) (hs : swapsWithSole [.Subscript o i p2] e pos.line X.env = pure false := by rfl) (hw : swappedStores [.Subscript o i p2] e X.env = pure none := by rfl)
    (h1 : (assignEach [.Subscript o i p2] X.env).map (·.2) = [assign (.Subscript o i p2) X.env] := by rfl) : PM X C W (.Assign [.Subscript o i p2] e pos) (sSub mo mi me g) (tAsg te (gSub to ti tset)) := by
  refine ⟨ps_asg he.pe (pg_sub ho.pe hi.pe hst ha) hs hw h1, fun σ env S μ F H E s D P => ?_⟩
  show te σ H fun v H1 => to σ H1 fun o H2 => ti σ H2 fun i H3 => tset o i v H3 fun H4 => D.nx σ H4
  refine Snd.bindS he.snd E s P fun d v S1 μ1 F1 H1 g1 s1 E1 r1 P1 => Snd.bindS ho.snd E1 s1 P1 fun d2 v2 S2 μ2 F2 H2 g2 s2 E2 r2 P2 => Snd.bindS hi.snd E2 s2 P2 fun d3 v3 S3 μ3 F3 H3 g3 s3 E3 r3 P3 => ?_
  cases q : g d2 d3 d S3 with
  | none => rw [q] at P3; exact False.elim P3
  | some S' =>
    rw [q] at P3
    exact hg d2 d3 d v2 v3 v S3 μ3 F3 H3 S' _ s3 (g3.rep r2) r3 (g3.rep (g2.rep r1)) q fun H' g4 s4 => P3 σ μ3 F3 H' g4 s4 (g4.env E3)

/-! ### raise -/
def sRaise (c : Nat) : MS := fun env S => .err c env S
theorem pm_raise {k : Nat} (hc : X.calm = true) (tk : Takes X W) (he : PMk X e (fun _ H Q => Q (.ref (C k)) none H)) : PM X C W (.Raise (some e) none pos) (sRaise k) (fun _ σ H => W (.ref (C k)) none σ H) :=
  ⟨ps_raise hc tk he, fun σ env S μ F H E s D P => P σ μ F H (Go.refl _ _ _) s E⟩
end
end Mir

set_option Elab.async false
set_option maxRecDepth 100000
set_option linter.all false
set_option maxHeartbeats 4000000

namespace Mir
open PySem PySem.Spec PyProof.Rows L2
open Classical

/-! ### what is walked -/
abbrev Its := List D × (Store → Prop)
def Walk1 (J : It) (ds : List D) (g : Store → Prop) (μ : List Addr) (F H : Hp) : Prop := ds.length ≤ sizeLine ∧ ∀ S2 μ2 F2 H2, Go μ F H μ2 F2 H2 → Sim S2 μ2 F2 H2 → g S2 →
  (∀ (i : Nat) (d : D), ds[i]? = some d → J.go i H2 ∧ ∀ x H3, J.yld i H2 x H3 → ∃ F3, Go μ2 F2 H2 μ2 F3 H3 ∧ Sim S2 μ2 F3 H3 ∧ Rep μ2 F3 d x) ∧ J.stop ds.length H2
abbrev relI : List Addr → Hp → Hp → Its → It → Prop := fun μ F H p J => Walk1 J p.1 p.2 μ F H
structure PIt (X : Cx) (C : Nat → Addr) (W : WX) (tg iter : Expr) (m : Env → M Its) (wi : TI) : Prop where
  pi : PI X tg iter wi
  snd : Snd C W relI wi m
def iSeq (K : PySem.W.Frag) (tl : TE) : TI := fun σ H R => tl σ H fun x H1 => ∃ a, x = .ref a ∧ ((∃ xs, SqL K H1 a xs ∧ R (Itl K a) H1) ∨ ∃ xs, SqT K H1 a xs ∧ R (Itt K a) H1)
section
variable {X : Cx} {C : Nat → Addr} {W : WX} {tg iter e a b : Expr} {te ta tb : TE} {me ma mb : Env → M D} {pos p : Pos}
theorem pi_seq {l : Expr} {tl : TE} (hl : PE X l tl) : PI X tg l (iSeq X.K tl) := ⟨fun pins s σ H R I h => thn (hl.run pins s σ H _ I h) fun v s1 ⟨x, H1, I1, r1, q1⟩ => by
  obtain ⟨a, rfl, q⟩ := q1
  obtain rfl : v = Value.ref a := r1
  have fp : ∀ b ∈ [s1.heap.objs.size], FpOk X pins H1 b := fun b hb => by
    obtain rfl := List.mem_singleton.mp hb
    exact I1.fpOk (Nat.le_refl _) (I1.hok.fresh (Nat.le_refl _))
  have keep : ∀ o : Obj, Inv X pins σ H1 { s1 with heap := s1.heap.push o } := fun o => I1.kept (t' := s1.toks) fun b u e => Heap.get?_push_of_some _ e
  rcases q with ⟨xs, hq, q⟩ | ⟨xs, hq, q⟩
  · obtain ⟨its, _, p, _⟩ := I1.list hq
    exact wpAny_pyIter_list p.isList ⟨_, _, _, _, H1, rfl, keep _, turn_list a _, ⟨_, Heap.get?_push_size _ rfl, rfl, rfl⟩, fp, q⟩
  · obtain ⟨its, _, p, _⟩ := I1.tuple hq
    exact wpAny_pyIter_tuple p ⟨_, _, _, _, H1, rfl, keep _, turn_tuple a _, ⟨_, Heap.get?_push_size _ rfl, rfl, rfl⟩, fp, q⟩⟩
def seqM (d : D) : M Its := fun S => match seqOf S d with
  | some (b, ds) => .ok (ds, fun S' => seqOf S' d = some (b, ds)) S
  | none => .stuck
def mSeq (me : Env → M D) : Env → M Its := fun env => bnd (me env) seqM
theorem pit_seq (he : PV X C W e me te) : PIt X C W tg e (mSeq me) (iSeq X.K te) := by
  refine ⟨pi_seq he.pe, fun σ env S μ F H E s Q P => ?_⟩
  show te σ H fun x H1 => ∃ a, x = .ref a ∧ ((∃ xs, SqL X.K H1 a xs ∧ Q (Itl X.K a) H1) ∨ ∃ xs, SqT X.K H1 a xs ∧ Q (Itt X.K a) H1)
  refine Snd.bind he.snd E s P fun d v S1 μ1 F1 H1 g1 s1 E1 r1 P1 => ?_
  unfold seqM at P1
  cases q : seqOf S1 d with
  | none => rw [q] at P1; exact False.elim P1
  | some bd =>
    obtain ⟨b, ds⟩ := bd
    rw [q] at P1
    obtain ⟨a, vs, rfl, r2, at1, z⟩ := seq_of s1 r1 q
    refine ⟨a, rfl, ?_⟩
    have get : ∀ {S2 : Store} {μ2 : List Addr} {F2 H2 : Hp}, Go μ1 F1 H1 μ2 F2 H2 → Sim S2 μ2 F2 H2 → seqOf S2 d = some (b, ds) → ∃ vs, Reps μ2 F2 ds vs ∧ SeqAtH b H2 a vs := fun g2 s2 e2 => by
      obtain ⟨a', vs', ea, r3, at2, _⟩ := seq_of s2 (g2.rep r1) e2
      cases ea
      exact ⟨vs', r3, at2⟩
    cases b with
    | true =>
      refine .inr ⟨vs, .inl (.inl (at1.tup rfl)), P1 μ1 F1 H1 (Go.refl _ _ _) s1 _ ⟨z, fun S2 μ2 F2 H2 g2 s2 e2 => ?_⟩⟩
      obtain ⟨ws, r3, at2⟩ := get g2 s2 e2
      have sq : SqT X.K H2 a ws := .inl (.inl (at2.tup rfl))
      refine ⟨fun i d' hd => ?_, ⟨ws, sq, by rw [← r3.length]; exact Nat.le_refl _⟩⟩
      obtain ⟨x, hx, rx⟩ := r3.get hd
      refine ⟨⟨ws, x, sq, hx⟩, fun y H3 hy => ?_⟩
      obtain ⟨rfl, hy⟩ := hy
      have := hy ws sq
      rw [hx] at this; cases this
      exact ⟨F2, Go.refl _ _ _, s2, rx⟩
    | false =>
      refine .inl ⟨vs, .inl (at1.lst rfl), P1 μ1 F1 H1 (Go.refl _ _ _) s1 _ ⟨z, fun S2 μ2 F2 H2 g2 s2 e2 => ?_⟩⟩
      obtain ⟨ws, r3, at2⟩ := get g2 s2 e2
      have sq : SqL X.K H2 a ws := .inl (at2.lst rfl)
      refine ⟨fun i d' hd => ?_, ⟨ws, sq, by rw [← r3.length]; exact Nat.le_refl _⟩⟩
      obtain ⟨x, hx, rx⟩ := r3.get hd
      refine ⟨⟨ws, x, sq, hx⟩, fun y H3 hy => ?_⟩
      obtain ⟨rfl, hy⟩ := hy
      have := hy ws sq
      rw [hx] at this; cases this
      exact ⟨F2, Go.refl _ _ _, s2, rx⟩
/-- lo, lo + 1, .. -/
def rangeD (lo : Int) (n : Nat) : List D := (List.range n).map fun i => D.int (lo + (i : Nat))
theorem rangeD_length (lo : Int) (n : Nat) : (rangeD lo n).length = n := by simp [rangeD]
theorem rangeD_get {lo : Int} {n i : Nat} {d : D} (h : (rangeD lo n)[i]? = some d) : i < n ∧ d = .int (lo + i) := by
  unfold rangeD at h
  rw [List.getElem?_map] at h
  by_cases hi : i < n
  · rw [List.getElem?_range hi] at h
    cases h
    exact ⟨hi, rfl⟩
  · rw [List.getElem?_eq_none (by simp; omega)] at h; cases h
def range1M : List D → M Its := fun ds S => match ds with
  | [.int j] => if -16777216 ≤ j ∧ j ≤ 16777216 then .ok (rangeD 0 j.toNat, fun _ => True) S else .stuck
  | _ => .stuck
def range2M : List D → M Its := fun ds S => match ds with
  | [.int i, .int j] => if -16777216 ≤ i ∧ j ≤ 16777216 ∧ i ≤ 16777216 ∧ -16777216 ≤ j ∧ j - i ≤ 16777216 then .ok (rangeD i (j - i).toNat, fun _ => True) S else .stuck
  | _ => .stuck
def mIts (f : List D → M Its) (ms : List (Env → M D)) : Env → M Its := fun env => bnd (mArgs ms env) f
theorem walk_range {lo : Int} {n : Nat} {μ : List Addr} {F H : Hp} (hn : n ≤ sizeLine) : Walk1 (Itr lo n) (rangeD lo n) (fun _ => True) μ F H := by
  refine ⟨by rw [rangeD_length]; exact hn, fun S2 μ2 F2 H2 g2 s2 _ => ⟨fun i d hd => ?_, by rw [rangeD_length]; exact Nat.le_refl _⟩⟩
  obtain ⟨hi, rfl⟩ := rangeD_get hd
  refine ⟨hi, fun x H3 hx => ?_⟩
  obtain ⟨rfl, rfl⟩ := hx
  exact ⟨F2, Go.refl _ _ _, s2, by simp only [Rep]⟩
theorem pit_range1 {t : TA} {ms : List (Env → M D)} (hg : Gl X "range") (hm : X.mg "range" = none) (ha : PL X C W [a] ms t) (hs : starEach [a] X.env = [(false, eval a X.env)] := by rfl) : PIt X C W tg (.Call (.Name "range" p) [a] [] pos) (mIts range1M ms) (iRng1 t) := by
  refine ⟨pi_range1 hg hm ha.pa hs, fun σ env S μ F H E s Q P => ?_⟩
  show t σ H fun vs H1 => ∃ j : Int, vs = [.int j] ∧ -(2 ^ 62) ≤ j ∧ j < 2 ^ 62 ∧ Q (Itr 0 j.toNat) H1
  refine Snd.bind ha.snd E s P fun ds vs S1 μ1 F1 H1 g1 s1 E1 r1 P1 => ?_
  unfold range1M at P1
  split at P1
  · rename_i j
    split at P1
    · rename_i hj
      obtain ⟨v, r, rfl, h1, h2⟩ := Reps.uncons r1
      cases h2.nil_inv
      simp only [Rep] at h1
      subst h1
      exact ⟨j, rfl, by omega, by omega, P1 μ1 F1 H1 (Go.refl _ _ _) s1 _ (walk_range (by rw [sizeLine_eq]; omega))⟩
    · exact False.elim P1
  · exact False.elim P1
theorem pit_range2 {t : TA} {ms : List (Env → M D)} (hg : Gl X "range") (hm : X.mg "range" = none) (ha : PL X C W [a, b] ms t) (hs : starEach [a, b] X.env = [(false, eval a X.env), (false, eval b X.env)] := by rfl)
    (hs2 : starEach [b] X.env = [(false, eval b X.env)] := by rfl) : PIt X C W tg (.Call (.Name "range" p) [a, b] [] pos) (mIts range2M ms) (iRng2 t) := by
  refine ⟨pi_range2 hg hm ha.pa hs hs2, fun σ env S μ F H E s Q P => ?_⟩
  show t σ H fun vs H1 => ∃ i j : Int, vs = [.int i, .int j] ∧ (-(2 ^ 62) ≤ i ∧ i < 2 ^ 62 ∧ -(2 ^ 62) ≤ j ∧ j < 2 ^ 62) ∧ Q (Itr i (j - i).toNat) H1
  refine Snd.bind ha.snd E s P fun ds vs S1 μ1 F1 H1 g1 s1 E1 r1 P1 => ?_
  unfold range2M at P1
  split at P1
  · rename_i i j
    split at P1
    · rename_i hj
      obtain ⟨v, r, rfl, h1, h2⟩ := Reps.uncons r1
      obtain ⟨w, r, rfl, h3, h4⟩ := Reps.uncons h2
      cases h4.nil_inv
      simp only [Rep] at h1 h3
      subst h1; subst h3
      exact ⟨i, j, rfl, ⟨by omega, by omega, by omega, by omega⟩, P1 μ1 F1 H1 (Go.refl _ _ _) s1 _ (walk_range (by rw [sizeLine_eq]; omega))⟩
    · exact False.elim P1
  · exact False.elim P1

/-! ### for -/
noncomputable def forD (g : Store → Prop) (f : D → Env → Store → Option Env) (body : MS) : List D → MS
  | [] => fun env S => if g S then .nx env S else .stuck
  | d :: r => fun env S => if g S then (match f d env S with
    | some env1 => (match body env1 S with
      | .nx e S' => forD g f body r e S'
      | .ct e S' => forD g f body r e S'
      | .bk e S' => .nx e S'
      | .rt x S' => .rt x S'
      | .err c e S' => .err c e S'
      | .stuck => .stuck)
    | none => .stuck) else .stuck
noncomputable def sFor (mi : Env → M Its) (f : D → Env → Store → Option Env) (body : MS) : MS := fun env => bndS (mi env) env fun p => forD p.2 f body p.1 env
theorem snd_loop {g : TG} {f : D → Env → Store → Option Env} {is : List Nat} {tb : TS} {mb : MS} (hg : SndG g f is) (hb : SndS C W tb mb) {J : It} {ds : List D} {gd : Store → Prop} {σ : L2.St} {env : Env} {S1 : Store} {μ1 : List Addr} {F1 H1 : Hp} {D : Ends} (s1 : Sim S1 μ1 F1 H1) (E1 : EnvRep μ1 F1 env σ)
    (w1 : Walk1 J ds gd μ1 F1 H1) (P1 : PostS C W μ1 F1 H1 (forD gd f mb ds env S1) D) : ∃ W' : Nat → Nat → L2.St → Hp → Prop, (∃ m, W' 0 m σ H1) ∧ ∀ i m σ H, W' i m σ H →
    (J.stop i H ∧ D.nx σ H) ∨ (J.go i H ∧ ∃ N : L2.St → Hp → Prop, (∀ σ' H', N σ' H' → ∃ m', m' < m ∧ W' (i + 1) m' σ' H') ∧ ∀ x H', J.yld i H x H' → g x σ H' fun σ2 H2 => tb { D with nx := N, ct := N, bk := D.nx } σ2 H2) := by
  obtain ⟨z, walk⟩ := w1
  have St : ∀ i : Nat, L2.St → Hp → Prop := fun i σ' H' => ∃ env' S' μ' F', EnvRep μ' F' env' σ' ∧ Sim S' μ' F' H' ∧ Go μ1 F1 H1 μ' F' H' ∧ PostS C W μ' F' H' (forD gd f mb (ds.drop i) env' S') D
  refine ⟨fun i m σ' H' => m = ds.length - i ∧ i ≤ ds.length ∧ ∃ env' S' μ' F', EnvRep μ' F' env' σ' ∧ Sim S' μ' F' H' ∧ Go μ1 F1 H1 μ' F' H' ∧ PostS C W μ' F' H' (forD gd f mb (ds.drop i) env' S') D,
    ⟨ds.length, by simp, Nat.zero_le _, env, S1, μ1, F1, E1, s1, Go.refl _ _ _, P1⟩, ?_⟩
  rintro i m σ2 H2 ⟨rfl, hi2, env2, S2, μ2, F2, E2, s2, g2, P2⟩
  by_cases hlt : i < ds.length
  · have hd : ds[i]? = some ds[i] := by simp [hlt]
    rw [List.drop_eq_getElem_cons hlt] at P2
    simp only [forD] at P2
    by_cases hg2 : gd S2
    · rw [if_pos hg2] at P2
      obtain ⟨w2, _⟩ := walk S2 μ2 F2 H2 g2 s2 hg2
      obtain ⟨w3, w4⟩ := w2 i _ hd
      refine .inr ⟨w3, fun σ' H' => ∃ env' S' μ' F', EnvRep μ' F' env' σ' ∧ Sim S' μ' F' H' ∧ Go μ1 F1 H1 μ' F' H' ∧ PostS C W μ' F' H' (forD gd f mb (ds.drop (i + 1)) env' S') D,
        fun σ' H' n => ⟨ds.length - (i + 1), by omega, rfl, hlt, n⟩, fun x H3 hx => ?_⟩
      obtain ⟨F3, g3, s3, r3⟩ := w4 x H3 hx
      cases q : f ds[i] env2 S2 with
      | none => rw [q] at P2; exact False.elim P2
      | some env3 =>
        rw [q] at P2
        dsimp only at P2
        refine hg σ2 env2 S2 μ2 F3 H3 x ds[i] env3 (g3.env E2) s3 r3 q _ fun σ4 E4 _ _ => ?_
        refine hb σ4 env3 S2 μ2 F3 H3 E4 s3 _ ?_
        have P3 := P2.rebase g3
        cases q2 : mb env3 S2 with
        | nx e S' => rw [q2] at P3; exact fun σ' μ' F' H' g' s' E' => ⟨e, S', μ', F', E', s', (g2.trans g3).trans g', P3.rebase g'⟩
        | ct e S' => rw [q2] at P3; exact fun σ' μ' F' H' g' s' E' => ⟨e, S', μ', F', E', s', (g2.trans g3).trans g', P3.rebase g'⟩
        | bk e S' => rw [q2] at P3; exact P3
        | rt y S' => rw [q2] at P3; exact P3
        | err c e S' => rw [q2] at P3; exact P3
        | stuck => rw [q2] at P3; exact P3
    · rw [if_neg hg2] at P2; exact False.elim P2
  · have e : i = ds.length := by omega
    subst e
    rw [List.drop_length] at P2
    simp only [forD] at P2
    by_cases hg2 : gd S2
    · rw [if_pos hg2] at P2
      exact .inl ⟨(walk S2 μ2 F2 H2 g2 s2 hg2).2, P2 σ2 μ2 F2 H2 (Go.refl _ _ _) s2 E2⟩
    · rw [if_neg hg2] at P2; exact False.elim P2
theorem snd_for {wi : TI} {g : TG} {f : D → Env → Store → Option Env} {is : List Nat} {tb : TS} {mi : Env → M Its} {mb : MS} (hi : Snd C W relI wi mi) (hg : SndG g f is) (hb : SndS C W tb mb) : SndS C W (tFor wi g tb) (sFor mi f mb) := fun σ env S μ F H E s D P => by
  show wi σ H fun J H1 => ∃ W' : Nat → Nat → L2.St → Hp → Prop, (∃ m, W' 0 m σ H1) ∧ ∀ i m σ H, W' i m σ H →
    (J.stop i H ∧ D.nx σ H) ∨ (J.go i H ∧ ∃ N : L2.St → Hp → Prop, (∀ σ' H', N σ' H' → ∃ m', m' < m ∧ W' (i + 1) m' σ' H') ∧ ∀ x H', J.yld i H x H' → g x σ H' fun σ2 H2 => tb { D with nx := N, ct := N, bk := D.nx } σ2 H2)
  refine Snd.bindS hi E s P fun p J S1 μ1 F1 H1 g1 s1 E1 w1 P1 => ?_
  exact snd_loop hg hb s1 E1 w1 P1
theorem pm_for {body : List Stmt} {wi : TI} {g : TG} {f : D → Env → Store → Option Env} {is : List Nat} {tb : TS} {mi : Env → M Its} {mb : MS} (hp : PassesOwn (model X.prog X.w) X.A X.env X.xe) (hc : X.calm = true) (hi : PIt X C W tg iter mi wi) (hg : PT1 X tg f is g) (hb : PMs X C W body mb tb)
    (hs : ∀ x, foldedSetIterable iter X.env x = pure x := by intro _; rfl) : PM X C W (.For tg iter body [] pos) (sFor mi f mb) (tFor wi g tb) := ⟨ps_for hp hc hi.pi hg.pg hb.ps hs, snd_for hi.snd hg.snd hb.snd⟩

/-! ### while -/
def whileD (mc : Env → M Bool) (body : MS) : Nat → MS
  | 0 => fun _ _ => .stuck
  | n + 1 => fun env => bndS (mc env) env fun b S => if b = true then (match body env S with
    | .nx e S' => whileD mc body n e S'
    | .ct e S' => whileD mc body n e S'
    | .bk e S' => .nx e S'
    | .rt x S' => .rt x S'
    | .err c e S' => .err c e S'
    | .stuck => .stuck) else .nx env S
noncomputable def sWhile (mc : Env → M Bool) (body : MS) : MS := fun env S => if h : ∃ n, whileD mc body n env S ≠ .stuck then whileD mc body (choose h) env S else .stuck
theorem snd_whileD {tc : TT} {tb : TS} {mc : Env → M Bool} {mb : MS} (hc : Snd C W relB tc mc) (hb : SndS C W tb mb) (n : Nat) : SndS C W (tWhile tc tb) (whileD mc mb n) := fun σ env S μ F H E s D P => by
  refine ⟨fun m σ' H' => ∃ env' S' μ' F', EnvRep μ' F' env' σ' ∧ Sim S' μ' F' H' ∧ PostS C W μ' F' H' (whileD mc mb m env' S') D, ⟨n, env, S, μ, F, E, s, P⟩, ?_⟩
  rintro m σ1 H1 ⟨env1, S1, μ1, F1, E1, s1, P1⟩
  cases m with
  | zero => exact False.elim P1
  | succ m =>
    refine Snd.bindS hc E1 s1 P1 fun b b' S2 μ2 F2 H2 g2 s2 E2 r2 P2 => ?_
    cases r2
    cases b with
    | false => exact P2 σ1 μ2 F2 H2 (Go.refl _ _ _) s2 E2
    | true =>
      rw [if_pos rfl] at P2 ⊢
      refine ⟨fun σ' H' => ∃ env' S' μ' F', EnvRep μ' F' env' σ' ∧ Sim S' μ' F' H' ∧ PostS C W μ' F' H' (whileD mc mb m env' S') D, fun σ' H' q => ⟨m, Nat.lt_succ_self _, q⟩, ?_⟩
      refine hb σ1 env1 S2 μ2 F2 H2 E2 s2 _ ?_
      cases q2 : mb env1 S2 with
      | nx e S' => rw [q2] at P2; exact fun σ' μ' F' H' g' s' E' => ⟨e, S', μ', F', E', s', P2.rebase g'⟩
      | ct e S' => rw [q2] at P2; exact fun σ' μ' F' H' g' s' E' => ⟨e, S', μ', F', E', s', P2.rebase g'⟩
      | bk e S' => rw [q2] at P2; exact P2
      | rt y S' => rw [q2] at P2; exact P2
      | err c e S' => rw [q2] at P2; exact P2
      | stuck => rw [q2] at P2; exact P2
theorem pm_while {c : Expr} {body : List Stmt} {tc : TT} {tb : TS} {mc : Env → M Bool} {mb : MS} (hp : PassesOwn (model X.prog X.w) X.A X.env X.xe) (hc : PB X C W c mc tc) (hb : PMs X C W body mb tb) : PM X C W (.While c body [] pos) (sWhile mc mb) (tWhile tc tb) := by
  refine ⟨ps_while hp hc.pt hb.ps, fun σ env S μ F H E s D P => ?_⟩
  unfold sWhile at P
  split at P
  · exact snd_whileD hc.snd hb.snd _ σ env S μ F H E s D P
  · exact False.elim P
theorem whileD_mono {mc : Env → M Bool} {body : MS} : ∀ {n : Nat} {env : Env} {S : Store}, whileD mc body n env S ≠ .stuck → ∀ k, whileD mc body (n + k) env S = whileD mc body n env S
  | 0, _, _, h, _ => absurd rfl h
  | n + 1, env, S, h, k => by
    rw [Nat.succ_add]
    simp only [whileD, bndS] at h ⊢
    cases q : mc env S with
    | ok b S1 =>
      rw [q] at h
      dsimp only at h ⊢
      cases b with
      | false => rfl
      | true =>
        rw [if_pos rfl] at h ⊢
        rw [if_pos rfl]
        cases q2 : body env S1 with
        | nx e S' => rw [q2] at h; exact whileD_mono h k
        | ct e S' => rw [q2] at h; exact whileD_mono h k
        | bk e S' => rfl
        | rt y S' => rfl
        | err c e S' => rfl
        | stuck => rfl
    | err c S1 => rfl
    | stuck => rfl
theorem sWhile_of {mc : Env → M Bool} {body : MS} {n : Nat} {env : Env} {S : Store} {r : RS} (h : whileD mc body n env S = r) (hr : r ≠ .stuck) : sWhile mc body env S = r := by
  have ex : ∃ n, whileD mc body n env S ≠ .stuck := ⟨n, by rw [h]; exact hr⟩
  unfold sWhile
  rw [dif_pos ex]
  have h1 := whileD_mono (choose_spec ex) n
  have h2 := whileD_mono (n := n) (env := env) (S := S) (mc := mc) (body := body) (by rw [h]; exact hr) (choose ex)
  rw [← h1, Nat.add_comm, h2, h]
end
end Mir

set_option Elab.async false
set_option maxRecDepth 100000
set_option linter.all false
set_option maxHeartbeats 4000000

namespace Mir
open PySem PySem.Spec PyProof.Rows L2
open Classical

abbrev W0 : WX := fun _ _ _ _ => False
/-- the slots of a block's own names forgotten -/
def wipeE (env : Env) : List Nat → Env
  | [] => env
  | v :: vs => (wipeE env vs).set v none
theorem wipeE_length (env : Env) : ∀ vs : List Nat, (wipeE env vs).length = env.length
  | [] => rfl
  | v :: vs => by unfold wipeE; rw [List.length_set, wipeE_length env vs]
theorem EnvRep.wipe {μ : List Addr} {F : Hp} {env : Env} {σ : L2.St} (h : EnvRep μ F env σ) : ∀ vs : List Nat, EnvRep μ F (wipeE env vs) (wipe σ vs)
  | [] => h
  | v :: vs => (h.wipe vs).forget v none
theorem wipe_at (σ : L2.St) {j : Nat} : ∀ {vs : List Nat}, j ∈ vs → (wipe σ vs)[j]? = if j < σ.length then some none else none
  | [], h => by simp at h
  | v :: vs, h => by
    unfold wipe
    by_cases e : v = j
    · subst e
      by_cases hl : v < σ.length
      · rw [if_pos hl, List.getElem?_set_self (by rw [wipe_length]; exact hl)]
      · rw [if_neg hl, List.getElem?_eq_none (by rw [List.length_set, wipe_length]; omega)]
    · rw [List.getElem?_set_ne e]
      exact wipe_at σ (by simpa [Ne.symm e] using h)
theorem wipe_off (σ : L2.St) {j : Nat} : ∀ {vs : List Nat}, j ∉ vs → (wipe σ vs)[j]? = σ[j]?
  | [], _ => rfl
  | v :: vs, h => by
    unfold wipe
    rw [List.getElem?_set_ne (fun z => h (by simp [z]))]
    exact wipe_off σ fun z => h (List.mem_cons_of_mem _ z)
theorem wipe_eq {σ σ2 : L2.St} {vs : List Nat} (hl : σ2.length = σ.length) (h : ∀ j, j ∉ vs → σ2[j]? = (wipe σ vs)[j]?) : wipe σ2 vs = wipe σ vs := by
  apply List.ext_getElem?
  intro j
  by_cases hj : j ∈ vs
  · rw [wipe_at σ2 hj, wipe_at σ hj, hl]
  · rw [wipe_off σ2 hj]
    exact h j hj

/-! ### a list that is being made, beside the store -/
theorem Sim.aux {S : Store} {μ : List Addr} {F H : Hp} (s : Sim S μ F H) {L : Addr} {o : HO} (hm : L ∉ μ) (hf : F L = none) : Sim S μ F (upd H L o) := by
  refine ⟨s.len, s.nd, fun a u h => ?_, fun a m z => ?_, fun n ob a h1 h2 => ?_⟩
  · rw [upd_ne fun e => by rw [e, hf] at h; cases h]; exact s.ext a u h
  · by_cases e : a = L
    · subst e; exact hm m
    · rw [upd_ne e] at z; exact s.up a m z
  · have ne : a ≠ L := fun e => hm (by rw [← e]; exact List.mem_of_getElem? h2)
    have q := s.obj n ob a h1 h2
    cases ob with
    | lst ds => obtain ⟨vs, q1, q2⟩ := q; exact ⟨vs, by rw [upd_ne ne]; exact q1, q2⟩
    | fz ds => exact q
    | dic ks ds => obtain ⟨vs, q1, q2⟩ := q; exact ⟨vs, by rw [upd_ne ne]; exact q1, q2⟩
    | dead => exact True.intro
theorem Go.aux {μ μ' : List Addr} {F H F' H' : Hp} (g : Go μ F H μ' F' H') {L : Addr} {o : HO} (h : H L = none) : Go μ F H μ' F' (upd H' L o) :=
  ⟨g.pre, g.ex, fun b u hb hn => by rw [upd_ne fun e => by rw [e, h] at hb; cases hb]; exact g.fr b u hb hn, g.fresh, g.nf⟩
/-- it is frozen -/
theorem Sim.frz {S : Store} {μ : List Addr} {F H : Hp} (s : Sim S μ F H) {L : Addr} {o : HO} (hm : L ∉ μ) (hf : F L = none) (hH : H L = some o) : Sim S μ (upd F L o) H := by
  have eF : Ext F (upd F L o) := Ext.new hf
  refine ⟨s.len, s.nd, fun a u h => ?_, s.up, fun n ob a h1 h2 => ?_⟩
  · by_cases e : a = L
    · subst e; rw [upd_same] at h; rw [hH]; exact h
    · rw [upd_ne e] at h; exact s.ext a u h
  · have ne : a ≠ L := fun e => hm (by rw [← e]; exact List.mem_of_getElem? h2)
    have q := s.obj n ob a h1 h2
    cases ob with
    | lst ds => obtain ⟨vs, q1, q2, q3, q4⟩ := q; exact ⟨vs, q1, Reps.mono (List.prefix_refl _) eF _ _ q2, by rw [upd_ne ne]; exact q3, q4⟩
    | fz ds => obtain ⟨vs, q1, q2, q4⟩ := q; exact ⟨vs, eF _ _ q1, Reps.mono (List.prefix_refl _) eF _ _ q2, q4⟩
    | dic ks ds => obtain ⟨vs, q1, q5, q2, q3, q4⟩ := q; exact ⟨vs, q1, q5, Reps.mono (List.prefix_refl _) eF _ _ q2, by rw [upd_ne ne]; exact q3, q4⟩
    | dead => exact True.intro
/-- it is the store's -/
theorem Sim.push {S : Store} {μ : List Addr} {F H : Hp} (s : Sim S μ F H) {L : Addr} {ob : Ob} (hm : L ∉ μ) (hH : H L ≠ none) (hr : ObRep (μ ++ [L]) F H L ob) : Sim (S ++ [ob]) (μ ++ [L]) F H := by
  have pre : μ <+: μ ++ [L] := List.prefix_append _ _
  refine ⟨by simp [s.len], ?_, s.ext, fun a m z => ?_, fun n ob' a h1 h2 => ?_⟩
  · rw [List.nodup_append]
    refine ⟨s.nd, by simp, fun a ha b hb e => ?_⟩
    simp at hb
    subst hb; subst e
    exact hm ha
  · rcases List.mem_append.mp m with m | m
    · exact s.up a m z
    · simp at m; subst m; exact hH z
  · by_cases hn : n < S.length
    · rw [List.getElem?_append_left hn] at h1
      rw [List.getElem?_append_left (by rw [s.len]; exact hn)] at h2
      have q := s.obj n ob' a h1 h2
      cases ob' with
      | lst ds => obtain ⟨vs, q1, q2, q3⟩ := q; exact ⟨vs, q1, Reps.mono pre (Ext.refl _) _ _ q2, q3⟩
      | fz ds => obtain ⟨vs, q1, q2, q3⟩ := q; exact ⟨vs, q1, Reps.mono pre (Ext.refl _) _ _ q2, q3⟩
      | dic ks ds => obtain ⟨vs, q1, q4, q2, q3⟩ := q; exact ⟨vs, q1, q4, Reps.mono pre (Ext.refl _) _ _ q2, q3⟩
      | dead => exact True.intro
    · have en : n = S.length := by
        have := (List.getElem?_eq_some_iff.mp h1).1
        simp at this; omega
      subst en
      rw [List.getElem?_append_right (Nat.le_refl _)] at h1
      rw [List.getElem?_append_right (by rw [s.len]; exact Nat.le_refl _)] at h2
      simp at h1 h2
      rw [s.len] at h2
      simp at h2
      subst h1; subst h2
      exact hr
/-- what becomes of the list that is made: frozen, or the store's -/
def ResOk (C : Nat → Addr) (W : WX) (res : List D → M D) : Prop := ∀ σ ds vs S μ F H μ1 F1 H1 L (Q : VK), Sim S μ F H → Reps μ F ds vs → Go μ1 F1 H1 μ F H → H1 L = none → H L = some (.lst vs) → L ∉ μ → F L = none → ds.length ≤ sizeLine →
  Post C W μ1 F1 H1 σ (res ds S) (fun a μ' F' H' => ∀ b, Rep μ' F' a b → Q b H') → Q (.ref L) H
def resF : List D → M D := fun ds S => .ok (.lst ds) S
def resO : List D → M D := fun ds S => .ok (.ref S.length) (S ++ [.lst ds])
theorem Go.frz {μ1 μ : List Addr} {F1 H1 F H : Hp} (g : Go μ1 F1 H1 μ F H) {L : Addr} {o : HO} (hL : H1 L = none) (hf : F L = none) : Go μ1 F1 H1 μ (upd F L o) H :=
  ⟨g.pre, g.ex.trans (Ext.new hf), g.fr, g.fresh, fun b u h1 h2 n => by rw [upd_ne (ne_of_none h2 hL)]; exact g.nf b u h1 h2 n⟩
theorem resF_ok {C : Nat → Addr} {W : WX} : ResOk C W resF := fun σ ds vs S μ F H μ1 F1 H1 L Q s r g hL hH hm hf z P => by
  exact P _ _ _ (g.frz hL hf) (s.frz hm hf hH) _ (rep_lst upd_same (Reps.mono (List.prefix_refl _) (Ext.new hf) _ _ r) z)
theorem resO_ok {C : Nat → Addr} {W : WX} : ResOk C W resO := fun σ ds vs S μ F H μ1 F1 H1 L Q s r g hL hH hm hf z P => by
  have s2 := s.push (ob := .lst ds) hm (by rw [hH]; intro z; cases z) ⟨vs, hH, Reps.mono (List.prefix_append _ _) (Ext.refl _) _ _ r, hf, z⟩
  refine P (μ ++ [L]) F H ⟨g.pre.trans (List.prefix_append _ _), g.ex, g.fr, fun b hb hn => ?_, g.nf⟩ s2 _ (rep_ref ?_)
  · rcases List.mem_append.mp hb with hb | hb
    · exact g.fresh b hb hn
    · simp at hb; subst hb; exact hL
  · rw [← s.len, List.getElem?_append_right (Nat.le_refl _)]; simp

/-! ### comprehensions -/
noncomputable def lcD (g : Store → Prop) (f : D → M (Option D)) : List D → M (List D)
  | [] => fun S => if g S then .ok [] S else .stuck
  | d :: r => fun S => if g S then (match f d S with
    | .ok o S' => (match lcD g f r S' with
      | .ok as S'' => .ok (o.toList ++ as) S''
      | _ => .stuck)
    | _ => .stuck) else .stuck
def elD (env0 : Env) (f : D → Env → Store → Option Env) (mt : Env → M Bool) (me : Env → M D) : D → M (Option D) := fun d S => match f d env0 S with
  | some env2 => bnd (mt env2) (fun b => if b = true then bnd (me env2) (fun a => ret (some a)) else ret none) S
  | none => .stuck
noncomputable def mLc (own : List Nat) (mi : Env → M Its) (f : D → Env → Store → Option Env) (mt : Env → M Bool) (me : Env → M D) (res : List D → M D) : Env → M D := fun env =>
  bnd (mi env) fun p => bnd (lcD p.2 (elD (wipeE env own) f mt me) p.1) res
theorem lcD_len {g : Store → Prop} {f : D → M (Option D)} : ∀ {ds : List D} {S S' : Store} {as : List D}, lcD g f ds S = .ok as S' → as.length ≤ ds.length
  | [], S, S', as, h => by
    simp only [lcD] at h
    split at h
    · cases h; exact Nat.le_refl _
    · cases h
  | d :: ds, S, S', as, h => by
    simp only [lcD] at h
    split at h
    · split at h
      · rename_i o S1 _
        split at h
        · rename_i bs S2 q
          cases h
          have := lcD_len q
          cases o <;> simp <;> omega
        · cases h
      · cases h
    · cases h
theorem snd_lc {C : Nat → Addr} {W : WX} {wi : TI} {g : TG} {tt : TT} {te : TE} {own : List Nat} {mi : Env → M Its} {f : D → Env → Store → Option Env} {is : List Nat} {mt : Env → M Bool} {me : Env → M D} {res : List D → M D}
    (hi : Snd C W relI wi mi) (hg : SndG g f is) (ht : Snd C W0 relB tt mt) (he : Snd C W0 relD te me) (hr : ResOk C W res) (his : ∀ j ∈ is, j ∈ own) : Snd C W relD (tLc wi g tt te own) (mLc own mi f mt me res) := fun σ env S μ F H E s Q P => by
  show wi σ H fun J H1 => ∀ L, H1 L = none → ∃ W' : Nat → Nat → Hp → Prop, (∃ m, W' 0 m (upd H1 L (.lst []))) ∧ ∀ i m H, W' i m H →
    (J.stop i H ∧ Q (.ref L) H) ∨ (J.go i H ∧ ∃ Nx : Hp → Prop, (∀ H', Nx H' → ∃ m', m' < m ∧ W' (i + 1) m' H') ∧ ∀ x H', J.yld i H x H' → g x (wipe σ own) H' fun σ2 H2 => wipe σ2 own = wipe σ own ∧ tt σ2 H2 fun b H3 =>
      if b = true then te σ2 H3 fun y H4 => ∃ acc, H4 L = some (.lst acc) ∧ acc.length < sizeLine ∧ Nx (upd H4 L (.lst (acc ++ [y]))) else Nx H3)
  refine Snd.bind hi E s P fun p J S1 μ1 F1 H1 g1 s1 E1 w1 P1 => ?_
  obtain ⟨ds, gd⟩ := p
  obtain ⟨z, walk⟩ := w1
  have z : ds.length ≤ sizeLine := z
  intro L hL
  generalize hfe : elD (wipeE env own) f mt me = fe at P1
  have f1 : F1 L = none := s1.ext.free hL
  have m1 : L ∉ μ1 := fun m => s1.up L m hL
  let I : Nat → Hp → Prop := fun i H' => ∃ S' μ' F' acc vacc, Sim S' μ' F' H' ∧ Go μ1 F1 H1 μ' F' H' ∧ H' L = some (.lst vacc) ∧ Reps μ' F' acc vacc ∧ acc.length ≤ i ∧ L ∉ μ' ∧ F' L = none ∧
    Post C W μ1 F1 H1 σ (bnd (lcD gd fe (ds.drop i)) (fun as => res (acc ++ as)) S') (fun a μ' F' H' => ∀ b, Rep μ' F' a b → Q b H')
  refine ⟨fun i m H' => m = ds.length - i ∧ i ≤ ds.length ∧ I i H', ⟨ds.length, by simp, Nat.zero_le _, S1, μ1, F1, [], [], s1.aux m1 f1, (Go.refl _ _ _).aux hL, upd_same, reps_nil, Nat.le_refl _, m1, f1, by simpa using P1⟩, ?_⟩
  rintro i m H2 ⟨rfl, hi2, S2, μ2, F2, acc, vacc, s2, g2, hH2, r2, l2, m2, f2, P2⟩
  by_cases hlt : i < ds.length
  · have hd : ds[i]? = some ds[i] := by simp [hlt]
    rw [List.drop_eq_getElem_cons hlt] at P2
    by_cases hg2 : gd S2
    · obtain ⟨w2, _⟩ := walk S2 μ2 F2 H2 g2 s2 hg2
      obtain ⟨w3, w4⟩ := w2 i _ hd
      refine .inr ⟨w3, I (i + 1), fun H' n => ⟨ds.length - (i + 1), by omega, rfl, hlt, n⟩, fun x H3 hx => ?_⟩
      obtain ⟨F3, g3, s3, r3⟩ := w4 x H3 hx
      have P3 : Post C W μ1 F1 H1 σ (match fe ds[i] S2 with
          | .ok o S' => bnd (lcD gd fe (ds.drop (i + 1))) (fun as => res (acc ++ (o.toList ++ as))) S'
          | _ => .stuck) (fun a μ' F' H' => ∀ b, Rep μ' F' a b → Q b H') := by
        unfold bnd at P2 ⊢
        simp only [lcD, if_pos hg2] at P2
        cases q : fe ds[i] S2 with
        | ok o S' =>
          rw [q] at P2
          dsimp only at P2 ⊢
          cases q2 : lcD gd fe (ds.drop (i + 1)) S' with
          | ok as S'' => rw [q2] at P2; exact P2
          | err c S'' => rw [q2] at P2; exact P2.elim
          | stuck => rw [q2] at P2; exact P2.elim
        | err c S' => rw [q] at P2; exact P2
        | stuck => rw [q] at P2; exact P2
      have hq : fe ds[i] S2 = elD (wipeE env own) f mt me ds[i] S2 := by rw [hfe]
      unfold elD at hq
      cases q : f ds[i] (wipeE env own) S2 with
      | none => rw [q] at hq; rw [hq] at P3; exact False.elim P3
      | some env3 =>
        rw [q] at hq
        dsimp only at hq
        refine hg (wipe σ own) (wipeE env own) S2 μ2 F3 H3 x ds[i] env3 (((g2.trans g3).env E1).wipe own) s3 r3 q _ fun σ4 E4 l4 o4 => ⟨?_, ?_⟩
        · exact wipe_eq (by rw [l4, wipe_length]) fun j hj => o4 j fun z => hj (his j z)
        · have hH3 : H3 L = some (.lst vacc) := g3.fr L _ hH2 m2
          refine ht σ4 env3 S2 μ2 F3 H3 E4 s3 _ ?_
          cases q2 : mt env3 S2 with
          | err c S3 => simp only [bnd, q2] at hq; rw [hq] at P3; exact P3.elim
          | stuck => simp only [bnd, q2] at hq; rw [hq] at P3; exact P3.elim
          | ok b S3 =>
            intro μ4 F4 H4 g4 s4 b' hb'
            cases hb'
            have hH4 : H4 L = some (.lst vacc) := g4.fr L _ hH3 m2
            have m4 : L ∉ μ4 := fun m => by have := g4.fresh L m m2; rw [hH3] at this; cases this
            have f4 : F4 L = none := g4.nf L _ (g3.nf L _ f2 hH2 m2) hH3 m2
            cases b with
            | false =>
              have hq' : fe ds[i] S2 = .ok none S3 := by rw [hq]; simp [bnd, q2, ret]
              rw [hq'] at P3
              rw [if_neg Bool.false_ne_true]
              refine ⟨S3, μ4, F4, acc, vacc, s4, (g2.trans g3).trans g4, hH4, (g3.trans g4).reps r2, Nat.le_succ_of_le l2, m4, f4, ?_⟩
              simpa [Option.toList] using P3
            | true =>
              rw [if_pos rfl]
              refine he σ4 env3 S3 μ4 F4 H4 (g4.env E4) s4 _ ?_
              cases q3 : me env3 S3 with
              | err c S5 =>
                have hq' : fe ds[i] S2 = .err c S5 := by rw [hq]; simp [bnd, q2, q3]
                rw [hq'] at P3; exact P3.elim
              | stuck =>
                have hq' : fe ds[i] S2 = .stuck := by rw [hq]; simp [bnd, q2, q3]
                rw [hq'] at P3; exact P3.elim
              | ok y S5 =>
                have hq' : fe ds[i] S2 = .ok (some y) S5 := by rw [hq]; simp [bnd, q2, q3, ret]
                rw [hq'] at P3
                intro μ5 F5 H5 g5 s5 vy hy
                have hH5 : H5 L = some (.lst vacc) := g5.fr L _ hH4 m4
                have m5 : L ∉ μ5 := fun m => by have := g5.fresh L m m4; rw [hH4] at this; cases this
                have f5 : F5 L = none := g5.nf L _ f4 hH4 m4
                have r5 : Reps μ5 F5 acc vacc := g5.reps ((g3.trans g4).reps r2)
                refine ⟨vacc, hH5, by rw [← r5.length]; omega, S5, μ5, F5, acc ++ [y], vacc ++ [vy], s5.aux m5 f5, (((g2.trans g3).trans g4).trans g5).aux hL, upd_same, Reps.append r5 (Reps.cons hy reps_nil), by simp; omega, m5, f5, ?_⟩
                simpa [Option.toList] using P3
    · exfalso
      unfold bnd at P2
      simp only [lcD, if_neg hg2] at P2
      exact P2
  · have e : i = ds.length := by omega
    subst e
    rw [List.drop_length] at P2
    by_cases hg2 : gd S2
    · refine .inl ⟨(walk S2 μ2 F2 H2 g2 s2 hg2).2, ?_⟩
      unfold bnd at P2
      simp only [lcD, if_pos hg2, List.append_nil] at P2
      exact hr σ acc vacc S2 μ2 F2 H2 μ1 F1 H1 L Q s2 r2 g2 hL hH2 m2 f2 (Nat.le_trans l2 z) P2
    · exfalso
      unfold bnd at P2
      simp only [lcD, if_neg hg2] at P2
      exact P2

/-- a clause's tests -/
structure PTst (X : Cx) (C : Nat → Addr) (W : WX) (ifs : List Expr) (m : Env → M Bool) (t : TT) : Prop where
  pts : PTs X ifs t
  snd : Snd C W relB t m
section
variable {X : Cx} {C : Nat → Addr} {W : WX}
def bYes : Env → M Bool := fun _ => ret true
theorem ptst_nil : PTst X C W [] bYes tYes := ⟨pts_nil, fun σ env S μ F H E s Q P => Post.here P s _ rfl⟩
theorem ptst_one {c : Expr} {t : TT} {m : Env → M Bool} (h : PB X C W c m t) : PTst X C W [c] m t := ⟨pts_one h.pt, h.snd⟩
variable {elt tg iter : Expr} {ifs : List Expr} {scope : Scope} {own : List (Str × Nat)} {pos : Pos} {wi : TI} {g : TG} {tt : TT} {te : TE} {mi : Env → M Its} {f : D → Env → Store → Option Env} {is : List Nat} {mt : Env → M Bool} {me : Env → M D} {res : List D → M D}
abbrev Cx.b (X : Cx) (scope : Scope) (q : Shared × Hp × Addr × List (Str × Addr) × List Addr) : Cx := X.blk q.1 q.2.1 scope (compEnvC scope q.2.2.2.1 q.2.2.1 X.env) q.2.2.2.2
abbrev Bq := Shared × Hp × Addr × List (Str × Addr) × List Addr
theorem pv_lc (hc : X.calm = true) (hN : X.N.Nodup) (hr : ResOk C W res) (hi : PIt X C W tg iter mi wi) (ok : BlkOk X.N X.env.scope scope own) (his : ∀ j ∈ is, j ∈ own.map (·.2))
    (hg : ∀ q : Bq, PT1 (Cx.b X scope q) tg f is g) (ht : ∀ q : Bq, PTst (Cx.b X scope q) C W0 ifs mt tt) (he : ∀ q : Bq, PV (Cx.b X scope q) C W0 elt me te)
    (hs : ∀ x, foldedSetIterable iter X.env x = pure x := by intro _; rfl) : PV X C W (.ListComp elt [⟨tg, iter, ifs, 0⟩] scope pos) (mLc (own.map (·.2)) mi f mt me res) (tLc wi g tt te (own.map (·.2))) := by
  have q0 : Bq := ({}, fun _ => none, 0, [], [])
  exact ⟨pe_lc hc hN hi.pi ok (fun s H C cl fp => (hg (s, H, C, cl, fp)).pg) (fun s H C cl fp => (ht (s, H, C, cl, fp)).pts) (fun s H C cl fp => (he (s, H, C, cl, fp)).pe) hs,
    snd_lc hi.snd (hg q0).snd (ht q0).snd (he q0).snd hr his⟩
/-- name = [..] on one line -/
theorem pm_setLc {i : Nat} {y : Str} {py spos : Pos} (hc : X.calm = true) (hN : X.N.Nodup) (hy : X.N[i]? = some y) (hyl : X.env.scope.names.lookup y = some .local) (hsw : swapsWith (.ListComp elt [⟨tg, iter, ifs, 0⟩] scope pos) (some (.Name y py)) spos.line X.env = pure true)
    (hr : ResOk C W res) (hi : PIt X C W tg iter mi wi) (ok : BlkOk X.N X.env.scope scope own) (his : ∀ j ∈ is, j ∈ own.map (·.2))
    (hg : ∀ q : Bq, PT1 (Cx.b X scope q) tg f is g) (ht : ∀ q : Bq, PTst (Cx.b X scope q) C W0 ifs mt tt) (he : ∀ q : Bq, PV (Cx.b X scope q) C W0 elt me te)
    (hs : ∀ x, foldedSetIterable iter X.env x = pure x := by intro _; rfl) :
    PM X C W (.Assign [.Name y py] (.ListComp elt [⟨tg, iter, ifs, 0⟩] scope pos) spos) (sSet i (mLc (own.map (·.2)) mi f mt me res)) (tAsg (tLc wi g tt te (own.map (·.2))) (gName i)) := by
  have q0 : Bq := ({}, fun _ => none, 0, [], [])
  exact ⟨ps_setLc hc hN hy hyl hsw hi.pi ok (fun s H C cl fp => (hg (s, H, C, cl, fp)).pg) (fun s H C cl fp => (ht (s, H, C, cl, fp)).pts) (fun s H C cl fp => (he (s, H, C, cl, fp)).pe) hs,
    snd_set (snd_lc hi.snd (hg q0).snd (ht q0).snd (he q0).snd hr his)⟩
end

/-! ### try: body, except X: .., except Y: .. -/
def pick : List (Nat × MS) → Nat → MS
  | [], c => fun env S => .err c env S
  | (k, m) :: r, c => fun env S => if c = k then m env S else pick r c env S
/-- n: how many classes are told apart -/
def sTry (n : Nat) (body : MS) (hs : List (Nat × MS)) : MS := fun env S => match body env S with
  | .err c env' S' => if c < n then pick hs c env' S' else .stuck
  | r => r
/-- the clauses, with the classes they name -/
inductive Hds (X : Cx) (C : Nat → Addr) : List ExceptHandler → List (Nat × MS) → List (Value × (Addr → Value → Option Addr → TS)) → Prop
  | nil : Hds X C [] [] []
  | cons {x : Str} {k : Nat} {m : MS} {ts : TS} {b₀ : Stmt} {suite : List Stmt} {np pos' : Pos} {hds : List ExceptHandler} {ms : List (Nat × MS)} {l : List (Value × (Addr → Value → Option Addr → TS))} (hc : Names X x (.ref (C k)))
      (hsu : ∀ (a : Addr) (oe : Obj) (pn : List (Addr × Obj)), PMs (X.suite a ((a, oe) :: pn)) C W0 (b₀ :: suite) m ts) (r : Hds X C hds ms l) :
      Hds X C (.ExceptHandler (some (.Name x np)) none (b₀ :: suite) pos' :: hds) ((k, m) :: ms) ((.ref (C k), fun _ _ _ => ts) :: l)
theorem PostS.nox {C : Nat → Addr} {W : WX} {μ : List Addr} {F H : Hp} {r : RS} {D : Ends} (hn : ∀ c env S, r ≠ .err c env S) (p : PostS C W μ F H r D) : PostS C W0 μ F H r D := by
  cases r with
  | err c env S => exact absurd rfl (hn c env S)
  | _ => exact p
section
variable {X : Cx} {C : Nat → Addr} {W : WX}
theorem Hds.ok {hds : List ExceptHandler} {ms : List (Nat × MS)} {l : List (Value × (Addr → Value → Option Addr → TS))} (h : Hds X C hds ms l) : HdsOk X hds l := by
  induction h with
  | nil => exact .nil
  | cons hc hsu r ih => exact .cons hc (fun a oe cls d pn _ _ => (hsu a oe pn).ps) ih
theorem Hds.takes {n c : Nat} (hx : ∀ c k, c < n → k < n → PySem.W.exmOne X.K (.ref (C c)) (.ref (C k)) = some (decide (c = k))) (hcn : c < n) {D : Ends} {σ : L2.St} {H : Hp} {env : Env} {S : Store} {μ : List Addr} {F : Hp} (E : EnvRep μ F env σ) (s : Sim S μ F H)
    {hds : List ExceptHandler} {ms : List (Nat × MS)} {l : List (Value × (Addr → Value → Option Addr → TS))} (h : Hds X C hds ms l) (P : PostS C W μ F H (pick ms c env S) D) (hq : ∀ m ∈ ms, m.1 < n ∧ ∀ c' env' S' env S, m.2 env S ≠ .err c' env' S') : wMany X.K W D l (.ref (C c)) none σ H := by
  induction h with
  | nil => exact P σ μ F H (Go.refl _ _ _) s E
  | @cons x k m ts b₀ suite np pos' hds ms l hc hsu r ih =>
    refine ⟨decide (c = k), hx c k hcn (hq _ List.mem_cons_self).1, fun hb a ha => ?_, fun hb => ?_⟩
    · have e : c = k := of_decide_eq_true hb
      simp only [pick, if_pos e] at P
      exact (hsu a default []).snd σ env S μ F H E s D (P.nox fun c' env' S' => (hq _ List.mem_cons_self).2 c' env' S' env S)
    · have e : c ≠ k := of_decide_eq_false hb
      simp only [pick, if_neg e] at P
      exact ih P fun m hm => hq m (List.mem_cons_of_mem _ hm)
/-- a suite that raises nothing: what it raises is stuck -/
def sQuiet (m : MS) : MS := fun env S => match m env S with
  | .err _ _ _ => .stuck
  | r => r
theorem pms_quiet {sts : List Stmt} {m : MS} {t : TS} (h : PMs X C W0 sts m t) : PMs X C W0 sts (sQuiet m) t := ⟨h.ps, fun σ env S μ F H E s D P => by
  refine h.snd σ env S μ F H E s D ?_
  unfold sQuiet at P
  cases q : m env S with
  | err c e S' => rw [q] at P; exact False.elim P
  | nx e S' => rw [q] at P; exact P
  | bk e S' => rw [q] at P; exact P
  | ct e S' => rw [q] at P; exact P
  | rt e S' => rw [q] at P; exact P
  | stuck => rw [q] at P; exact P⟩
theorem sQuiet_no {m : MS} : ∀ c' env' S' env S, sQuiet m env S ≠ .err c' env' S' := fun c' env' S' env S => by
  unfold sQuiet
  cases m env S <;> intro h <;> cases h
variable {body : List Stmt} {h₀ : ExceptHandler} {hds : List ExceptHandler} {l : List (Value × (Addr → Value → Option Addr → TS))} {pos : Pos} {tb : WX → TS} {mb : MS} {ms : List (Nat × MS)}
theorem pm_try {n : Nat} (hst : X.stack = X.env :: X.outer) (hf : X.env.frame = some X.env.locals) (tk : Takes X W) (hx : ∀ c k, c < n → k < n → PySem.W.exmOne X.K (.ref (C c)) (.ref (C k)) = some (decide (c = k)))
    (hb : ∀ (W' : WX) (pn : List (Addr × Obj)) (xe : Value → Shared → Prop), Takes (X.tr pn xe) W' → PassesOwn (model X.prog X.w) X.A X.env xe → PMs (X.tr pn xe) C W' body mb (tb W'))
    (hh : Hds X C (h₀ :: hds) ms l) (hq : ∀ m ∈ ms, m.1 < n ∧ ∀ c' env' S' env S, m.2 env S ≠ .err c' env' S') : PM X C W (.Try body (h₀ :: hds) [] [] pos) (sTry n mb ms) (fun D σ H => tb (wMany X.K W D l) D σ H) := by
  refine ⟨ps_try_many hst hf tk (fun W' pn xe t p => (hb W' pn xe t p).ps) hh.ok, fun σ env S μ F H E s D P => ?_⟩
  have hsnd : ∀ W', SndS C W' (tb W') mb := fun W' => (hb W' [] (fun e s₁ => wpAny (model X.prog X.w) X.A (noteFrame e X.env) (fun _ s₂ => wpAny (model X.prog X.w) X.A (setFlight e none) (fun _ _ => True) (fun _ _ => True) s₂) (fun _ _ => True) s₁)
    (fun u s' xx => by
      obtain ⟨a, B, sI, pins', σ', H', cls, d, rfl, J', nb, up, sky, na, os, ag, w⟩ := xx
      have hfr : X.A.frames = some (X.env :: X.outer) := by rw [← hst]; exact J'.ok.frames
      have sky' : Sky B (X.env :: X.outer) a (Zc cls d) X.env.locals s'.heap := by rw [← hst]; exact sky
      exact Sky.land Zc.steady hfr hf sky' fun _ _ _ => True.intro) PassesOwn.looking).snd
  refine hsnd _ σ env S μ F H E s D ?_
  unfold sTry at P
  cases q : mb env S with
  | err c e S' =>
    rw [q] at P
    dsimp only at P
    by_cases hc : c < n
    · rw [if_pos hc] at P
      exact fun σ' μ' F' H' g' s' E' => Hds.takes hx hc E' s' hh (P.rebase g') hq
    · rw [if_neg hc] at P; exact False.elim P
  | nx e S' => rw [q] at P; exact P
  | bk e S' => rw [q] at P; exact P
  | ct e S' => rw [q] at P; exact P
  | rt e S' => rw [q] at P; exact P
  | stuck => rw [q] at P; exact P
end

/-! ### a def of the text -/
def fnRun (n : Nat) (mb : MS) : List D → M D := fun ds S => match mb (ds.map some ++ List.replicate (n - ds.length) none) S with
  | .rt d S' => .ok d S'
  | .nx _ S' => .ok .non S'
  | .err c _ S' => .err c S'
  | _ => .stuck
theorem env_start {μ : List Addr} {F : Hp} {ds : List D} {vs : List V} (N : List Str) (r : Reps μ F ds vs) : EnvRep μ F (ds.map some ++ List.replicate (N.length - ds.length) none) (L2.start N vs) := by
  have hl := r.length
  unfold L2.start
  refine ⟨by simp [hl], fun i d e => ?_⟩
  by_cases hi : i < ds.length
  · rw [List.getElem?_append_left (by simpa using hi), List.getElem?_map] at e
    cases q : ds[i]? with
    | none => rw [q] at e; cases e
    | some d' =>
      rw [q] at e
      cases e
      obtain ⟨v, v1, v2⟩ := r.get q
      exact ⟨v, by rw [List.getElem?_append_left (by simp [← hl, hi]), List.getElem?_map, v1]; rfl, v2⟩
  · rw [List.getElem?_append_right (by simpa using hi), List.getElem?_replicate] at e
    split at e <;> cases e
theorem fnM_of {P : Program} {w : World} {K : PySem.W.Frag} {mg : Str → Option Value} {base : Heap} {C : Nat → Addr} {k : Nat} {x qual : Str} {st : Stmt} {f : Addr} {fd : FuncData} {N ps : List Str} {mb : MS} (F : Fun K x qual st f fd) (hx : mg x = some (.ref f))
    (hbi : Binds K fd ps []) (S : FnScope N ps (defScope st))
    (hbody : ∀ (cdv : Value) (A : Around) (outer : List PySem.Env) (s : Shared) (H : Hp) (E : XK), Room k (A.deeper (envOfC qual (defScope st) s.heap.objs.size f cdv)) →
      ∃ ts, PMs (cxOf (L2.CX P w) P w K mg base N qual (defScope st) f cdv A outer s H E) C (fun cls d _ H' => E cls d H') (defBody st) mb ts) : FnM P w K mg base C (k + 1) x ps.length (fnRun N.length mb) := by
  refine ⟨f, fd, ps, hx, F.kp, hbi, rfl, F.okX S (fun vs H Q E h => h.1) fun cdv A outer s H vs Q E hr h => ?_⟩
  obtain ⟨ts, h1⟩ := hbody cdv A outer s H E hr
  refine ⟨ts, h1.ps, ?_⟩
  obtain ⟨_, ds, S0, μ, F0, s0, r, P⟩ := h
  refine h1.snd (L2.start N vs) _ S0 μ F0 H (env_start N r) s0 _ ?_
  unfold fnRun at P
  cases q : mb (ds.map some ++ List.replicate (N.length - ds.length) none) S0 with
  | nx e S' => rw [q] at P; exact fun σ' μ' F' H' g' s' E' => P μ' F' H' g' s' .non (by simp only [Rep])
  | rt d S' => rw [q] at P; exact fun v μ' F' H' g' s' r' => P μ' F' H' g' s' v r'
  | err c e S' => rw [q] at P; exact fun σ' μ' F' H' g' s' E' => P μ' F' H' g' s'
  | bk e S' => rw [q] at P; exact False.elim P
  | ct e S' => rw [q] at P; exact False.elim P
  | stuck => rw [q] at P; exact False.elim P
end Mir

set_option Elab.async false
set_option maxRecDepth 100000
set_option linter.all false
set_option maxHeartbeats 4000000

namespace Mir
open PySem PySem.Spec PyProof.Rows L2
open Classical

section
variable {X : Cx} {C : Nat → Addr} {W : WX} {K : PySem.W.Frag}

/-! ### numbers -/
def int2 (g : Int → Int → D) : D → D → M D := fun a b S => match a, b with
  | .int i, .int j => .ok (g i j) S
  | _, _ => .stuck
theorem fn_int2 {f : Int → Int → V} {g : Int → Int → D} (h : ∀ i j μ F, Rep μ F (g i j) (f i j)) : Fn2 C W (rI0 f) (int2 g) := fun σ d e v w S μ F H Q s r1 r2 P => by
  unfold int2 at P
  split at P
  · simp only [Rep] at r1 r2
    exact ⟨_, _, r1, r2, P μ F H (Go.refl _ _ _) s _ (h _ _ _ _)⟩
  · exact False.elim P
/-- two ints under a condition -/
noncomputable def int2c (c : Int → Int → Prop) (g : Int → Int → D) : D → D → M D := fun a b S => match a, b with
  | .int i, .int j => if c i j then .ok (g i j) S else .stuck
  | _, _ => .stuck
theorem fn_int2c {c : Int → Int → Prop} {f : Int → Int → V} {g : Int → Int → D} (h : ∀ i j μ F, Rep μ F (g i j) (f i j)) : Fn2 C W (rI c f) (int2c c g) := fun σ d e v w S μ F H Q s r1 r2 P => by
  unfold int2c at P
  split at P
  · split at P
    · rename_i hc
      simp only [Rep] at r1 r2
      exact ⟨_, _, r1, r2, hc, P μ F H (Go.refl _ _ _) s _ (h _ _ _ _)⟩
    · exact False.elim P
  · exact False.elim P
def subD : D → D → M D := int2 fun i j => .int (i - j)
theorem fn_sub : Fn2 C W (rI0 fun i j => .int (i - j)) subD := fn_int2 fun _ _ _ _ => by simp only [Rep]
noncomputable def modD : D → D → M D := int2c (fun _ j => j ≠ 0) fun i j => .int (i.fmod j)
theorem fn_mod : Fn2 C W (rI (fun _ j => j ≠ 0) fun i j => .int (i.fmod j)) modD := fn_int2c fun _ _ _ _ => by simp only [Rep]
noncomputable def fdivD : D → D → M D := int2c CDivN fun i j => .int (i.fdiv j)
theorem fn_fdiv : Fn2 C W (rI CDivN fun i j => .int (i.fdiv j)) fdivD := fn_int2c fun _ _ _ _ => by simp only [Rep]
noncomputable def powD : D → D → M D := int2c CPow fun i j => .int (i ^ j.toNat)
theorem fn_pow : Fn2 C W (rI CPow fun i j => .int (i ^ j.toNat)) powD := fn_int2c fun _ _ _ _ => by simp only [Rep]
def ltD : D → D → M D := int2 fun i j => .bl (decide (i < j))
theorem fn_lt : Fn2 C W (rI0 fun i j => .bl (decide (i < j))) ltD := fn_int2 fun _ _ _ _ => by simp only [Rep]
def leD : D → D → M D := int2 fun i j => .bl (decide (i ≤ j))
theorem fn_le : Fn2 C W (rI0 fun i j => .bl (decide (i ≤ j))) leD := fn_int2 fun _ _ _ _ => by simp only [Rep]
def gtD : D → D → M D := int2 fun i j => .bl (decide (j < i))
theorem fn_gt : Fn2 C W (rI0 fun i j => .bl (decide (j < i))) gtD := fn_int2 fun _ _ _ _ => by simp only [Rep]
def geD : D → D → M D := int2 fun i j => .bl (decide (j ≤ i))
theorem fn_ge : Fn2 C W (rI0 fun i j => .bl (decide (j ≤ i))) geD := fn_int2 fun _ _ _ _ => by simp only [Rep]
def negD : D → M D := fun a S => match a with
  | .int i => .ok (.int (-i)) S
  | _ => .stuck
theorem fn_neg : Fn1 C W (rU fun i => .int (-i)) negD := fun σ d v S μ F H Q s r1 P => by
  unfold negD at P
  split at P
  · simp only [Rep] at r1
    exact ⟨_, r1, P μ F H (Go.refl _ _ _) s _ (by simp only [Rep])⟩
  · exact False.elim P

/-! ### + and * -/
/-- list + list, where one may be locked -/
def rCatL (K : PySem.W.Frag) : R2 := fun x y H Q => ∃ l b xs zs, x = .ref l ∧ y = .ref b ∧ Rd H l (.lst xs) ∧ Rd H b (.lst zs) ∧ xs.length + zs.length ≤ sizeLine ∧ ∀ p, H p = none → Q (.ref p) (upd H p (.lst (xs ++ zs)))
theorem op_catL : OpR X (binaryOp .Add) (rCatL X.K) := fun pins s σ H x y v u Q I rx ry ⟨l, b, xs, zs, ex, ey, hH, hB, hz, q⟩ => by
  subst ex; subst ey
  obtain rfl : v = Value.ref l := rx
  obtain rfl : u = Value.ref b := ry
  obtain ⟨_, its, n, r, e⟩ := hH.ok I.hok
  obtain ⟨_, jts, m, r', e'⟩ := hB.ok I.hok
  have hl : its.length + jts.length ≤ sizeLine := by rw [← r.length, ← r'.length]; exact hz
  refine PySem.P.add_list e e' ?_ (by simpa using hl)
  rw [List.append_toArray]
  exact ⟨.ref _, _, I.lnew (t' := s.toks) (r.append r') (by simpa using hz), rfl, q _ I.fresh⟩
def rAddS' : R2 := fun x y H Q => ∃ i j, x = .str i ∧ y = .str j ∧ i.length + j.length ≤ sizeLine ∧ Q (.str (i ++ j)) H
def rAddI : R2 := rI0 fun i j => .int (i + j)
def rAdd (K : PySem.W.Frag) : R2 := fun x y H Q => rAddI x y H Q ∨ rAddS' x y H Q ∨ rCatA K x y H Q ∨ rCatL K x y H Q
theorem op_addA : OpR X (binaryOp .Add) (rAdd X.K) := OpR.or op_add (OpR.or op_add_str (OpR.or op_catA op_catL))
def addD : D → D → M D := fun a b S => match a, b with
  | .int i, .int j => .ok (.int (i + j)) S
  | .str x, .str y => if x.length + y.length ≤ sizeLine then .ok (.str (x ++ y)) S else .stuck
  | a, b => match seqOf S a, seqOf S b with
    | some (true, xs), some (true, ys) => if xs.length + ys.length ≤ sizeLine then .ok (.tup (xs ++ ys)) S else .stuck
    | some (false, xs), some (false, ys) => if xs.length + ys.length ≤ sizeLine then .ok (.lst (xs ++ ys)) S else .stuck
    | _, _ => .stuck
theorem sqT_of {b : Bool} {H : Hp} {a : Addr} {vs : List V} (h : SeqAtH b H a vs) (e : b = true) : SqT K H a vs := .inl (.inl (h.tup e))
/-- a tuple as it stands at a -/
theorem rep_at_tup {S : Store} {μ : List Addr} {F H : Hp} {d : D} {v : V} {ds : List D} (s : Sim S μ F H) (r : Rep μ F d v) (e : seqOf S d = some (true, ds)) : d = .tup ds := by
  cases d with
  | tup xs => cases e; rfl
  | lst xs => cases e
  | ref n =>
    dsimp only [seqOf] at e
    split at e <;> cases e
  | _ => cases e
theorem fn_add : Fn2 C W (rAdd K) addD := fun σ d e v w S μ F H Q s r1 r2 P => by
  unfold addD at P
  split at P
  · simp only [Rep] at r1 r2
    exact .inl ⟨_, _, r1, r2, P μ F H (Go.refl _ _ _) s _ (by simp only [Rep])⟩
  · split at P
    · rename_i hc
      simp only [Rep] at r1 r2
      exact .inr (.inl ⟨_, _, r1, r2, hc, P μ F H (Go.refl _ _ _) s _ (by simp only [Rep])⟩)
    · exact False.elim P
  · split at P
    · rename_i xs ys q1 q2
      split at P
      · rename_i hc
        obtain ⟨a, vs, rfl, r3, at1, z1⟩ := seq_of s r1 q1
        obtain ⟨b, ws, rfl, r4, at2, z2⟩ := seq_of s r2 q2
        have e1 := rep_at_tup s r1 q1
        have e2 := rep_at_tup s r2 q2
        subst e1; subst e2
        refine .inr (.inr (.inl ⟨a, b, vs, ws, rfl, rfl, sqT_of at1 rfl, sqT_of at2 rfl, by rw [← r3.length, ← r4.length]; exact hc, fun hx => ?_, fun _ hy => ?_, fun _ _ p hp => ?_⟩))
        · subst hx
          have : xs = [] := List.eq_nil_of_length_eq_zero r3.length
          subst this
          exact P μ F H (Go.refl _ _ _) s _ r2
        · subst hy
          have : ys = [] := List.eq_nil_of_length_eq_zero r4.length
          subst this
          rw [List.append_nil] at P
          exact P μ F H (Go.refl _ _ _) s _ r1
        · exact new_tup s (Reps.append r3 r4) (by rw [List.length_append]; exact hc) P hp
      · exact False.elim P
    · rename_i xs ys q1 q2
      split at P
      · rename_i hc
        obtain ⟨a, vs, rfl, r3, at1, z1⟩ := seq_of s r1 q1
        obtain ⟨b, ws, rfl, r4, at2, z2⟩ := seq_of s r2 q2
        refine .inr (.inr (.inr ⟨a, b, vs, ws, rfl, rfl, at1.lst rfl, at2.lst rfl, by rw [← r3.length, ← r4.length]; exact hc, fun p hp => ?_⟩))
        exact new_lst s (Reps.append r3 r4) (by rw [List.length_append]; exact hc) P hp
      · exact False.elim P
    · exact False.elim P
noncomputable def mulD : D → D → M D := int2c CMul fun i j => .int (i * j)
theorem fn_mul : Fn2 C W (rI CMul fun i j => .int (i * j)) mulD := fn_int2c fun _ _ _ _ => by simp only [Rep]
/-- [a, ..] * n -/
def mRep (ms : List (Env → M D)) (mb : Env → M D) : Env → M D := fun env => bnd (mArgs ms env) fun ds => bnd (mb env) fun d S => match d with
  | .int j => if -(2 ^ 63) ≤ j ∧ j < 2 ^ 63 ∧ ds.length * j.toNat ≤ sizeLine then .ok (.lst (List.replicate j.toNat ds).flatten) S else .stuck
  | _ => .stuck
theorem Reps.rep {μ : List Addr} {F : Hp} {ds : List D} {vs : List V} (h : Reps μ F ds vs) : ∀ n : Nat, Reps μ F (List.replicate n ds).flatten (List.replicate n vs).flatten
  | 0 => by simpa using reps_nil
  | n + 1 => by
    rw [List.replicate_succ, List.replicate_succ, List.flatten_cons, List.flatten_cons]
    exact h.append (Reps.rep h n)
theorem pv_rep {es : List Expr} {b : Expr} {ms : List (Env → M D)} {mb : Env → M D} {t : TA} {tb : TE} {pos pos' : Pos} (h : PL X C W es ms t) (hb : PV X C W b mb tb) (hz : ms.length ≤ sizeLine := by decide) : PV X C W (.BinOp (.List es pos') .Mult b pos) (mRep ms mb) (tOp rRep (tLst t) tb) := by
  refine ⟨pe_op op_rep (pe_lst h.pa) hb.pe, fun σ env S μ F H E s Q P => ?_⟩
  show t σ H fun xs H1 => xs.length ≤ sizeLine ∧ ∀ p, H1 p = none → tb σ (upd H1 p (.lst xs)) fun y H2 => rRep (.ref p) y H2 Q
  refine Snd.args h.snd E s P fun ds vs S1 μ1 F1 H1 l g1 s1 E1 r1 P1 => ⟨by rw [← r1.length, l]; exact hz, fun p hp => ?_⟩
  obtain ⟨s2, g2⟩ := s1.laid (o := .lst vs) hp
  refine Snd.bind hb.snd (g2.env E1) s2 (P1.rebase g2) fun d v S3 μ3 F3 H3 g3 s3 E3 r3 P3 => ?_
  split at P3
  · rename_i j
    split at P3
    · rename_i hc
      simp only [relD, Rep] at r3
      have r4 : Reps μ3 F3 ds vs := g3.reps (g2.reps r1)
      refine ⟨p, j, vs, rfl, r3, s3.ext _ _ (g3.ex _ _ upd_same), hc.1, hc.2.1, by rw [← r4.length]; exact hc.2.2, fun p' hp' => ?_⟩
      refine new_lst s3 (r4.rep _) ?_ P3 hp'
      have : (List.replicate j.toNat ds).flatten.length = ds.length * j.toNat := by simp [List.length_flatten, Nat.mul_comm]
      omega
    · exact False.elim P3
  · exact False.elim P3

/-! ### == and != of data -/
mutual
def pyD : D → Option PyData
  | .non => some .none
  | .bl b => some (.bool b)
  | .int i => some (.int i)
  | .str x => some (.str x)
  | .tup ds => (pyDs ds).map .tuple
  | .lst ds => (pyDs ds).map .list
  | _ => none
def pyDs : List D → Option (List PyData)
  | [] => some []
  | d :: ds => match pyD d, pyDs ds with
    | some p, some q => some (p :: q)
    | _, _ => none
end
/-- a value as data, an object of the store read -/
def pyOf (S : Store) (d : D) : Option PyData := match d with
  | .ref n => match seqOf S (.ref n) with
    | some (_, ds) => (pyDs ds).map .list
    | none => none
  | d => pyD d
mutual
theorem dp_of {K : PySem.W.Frag} {μ : List Addr} {F H : Hp} (x : Ext F H) : ∀ (d : D) (v : V) (p : PyData), Rep μ F d v → pyD d = some p → Dp K H v p
  | .non, v, p, r, e => by simp only [Rep] at r; simp only [pyD] at e; cases r; cases e; exact .non
  | .bl b, v, p, r, e => by simp only [Rep] at r; simp only [pyD] at e; cases r; cases e; exact .bl b
  | .int i, v, p, r, e => by simp only [Rep] at r; simp only [pyD] at e; cases r; cases e; exact .int i
  | .str x, v, p, r, e => by simp only [Rep] at r; simp only [pyD] at e; cases r; cases e; exact .str x
  | .ty n, v, p, r, e => by simp [pyD] at e
  | .tup ds, v, p, r, e => by
    simp only [Rep] at r
    obtain ⟨a, vs, rfl, q, _, r⟩ := r
    simp only [pyD, Option.map_eq_some_iff] at e
    obtain ⟨ps, e1, rfl⟩ := e
    exact .tup (.inl (.inl (x _ _ q))) (dps_of x ds vs ps r e1)
  | .lst ds, v, p, r, e => by
    simp only [Rep] at r
    obtain ⟨a, vs, rfl, q, _, r⟩ := r
    simp only [pyD, Option.map_eq_some_iff] at e
    obtain ⟨ps, e1, rfl⟩ := e
    exact .lst (.inl (x.rd q)) (dps_of x ds vs ps r e1)
  | .dic ks ds, v, p, r, e => by simp [pyD] at e
  | .ref n, v, p, r, e => by simp [pyD] at e
theorem dps_of {K : PySem.W.Frag} {μ : List Addr} {F H : Hp} (x : Ext F H) : ∀ (ds : List D) (vs : List V) (ps : List PyData), Reps μ F ds vs → pyDs ds = some ps → DpAll K H vs ps
  | [], vs, ps, r, e => by cases r.nil_inv; simp only [pyDs] at e; cases e; exact .nil
  | d :: ds, vs, ps, r, e => by
    obtain ⟨v, r', rfl, r1, r2⟩ := r.uncons
    simp only [pyDs] at e
    split at e
    · rename_i p q e1 e2
      cases e
      exact .cons (dp_of x d v p r1 e1) (dps_of x ds r' q r2 e2)
    · cases e
end
theorem dpOf {K : PySem.W.Frag} {S : Store} {μ : List Addr} {F H : Hp} (s : Sim S μ F H) {d : D} {v : V} {p : PyData} (r : Rep μ F d v) (e : pyOf S d = some p) : Dp K H v p := by
  unfold pyOf at e
  split at e
  · rename_i n
    split at e
    · rename_i b ds q
      obtain ⟨a, vs, rfl, r1, at1, _⟩ := seq_of s r q
      simp only [Option.map_eq_some_iff] at e
      obtain ⟨ps, e1, rfl⟩ := e
      have hb : b = false := by
        dsimp only [seqOf] at q
        split at q <;> first | (cases q; rfl) | cases q
      exact .lst (.inl (at1.lst hb)) (dps_of s.ext ds vs ps r1 e1)
    · cases e
  · exact dp_of s.ext d v p r e
def eqOk (p q : PyData) : Prop := p.canLay0 = true ∧ q.canLay0 = true ∧ min p.depth q.depth ≤ 64
def rEqM (K : PySem.W.Frag) : R2 := fun x y H Q => ∃ d e, Dp K H x d ∧ Dp K H y e ∧ eqOk d e ∧ Q (.bl (PyData.eqv d e)) H
def rNeM (K : PySem.W.Frag) : R2 := fun x y H Q => ∃ d e, Dp K H x d ∧ Dp K H y e ∧ eqOk d e ∧ Q (.bl (!PyData.eqv d e)) H
theorem op_eqM (hu : X.A.units + 64 < cLine) : OpR X (compareOp .Eq) (rEqM X.K) := fun pins s σ H x y v u Q I rx ry ⟨d, e, hd, he, ⟨k1, k2, k3⟩, q⟩ => by
  obtain ⟨as, r1⟩ := Dp.reads I d x v hd rx
  obtain ⟨bs, r2⟩ := Dp.reads I e y u he ry
  exact SeqAt.compareEq_reads r1 r2 k1 k2 (by omega) ⟨.bl _, H, I, rfl, q⟩
theorem op_neM (hu : X.A.units + 64 < cLine) : OpR X (compareOp .NotEq) (rNeM X.K) := fun pins s σ H x y v u Q I rx ry ⟨d, e, hd, he, ⟨k1, k2, k3⟩, q⟩ => by
  obtain ⟨as, r1⟩ := Dp.reads I d x v hd rx
  obtain ⟨bs, r2⟩ := Dp.reads I e y u he ry
  exact SeqAt.compareNe_reads r1 r2 k1 k2 (by omega) ⟨.bl _, H, I, rfl, q⟩
noncomputable def eqD : D → D → M D := fun a b S => match pyOf S a, pyOf S b with
  | some p, some q => if eqOk p q then .ok (.bl (PyData.eqv p q)) S else .stuck
  | _, _ => .stuck
noncomputable def neD : D → D → M D := fun a b S => match pyOf S a, pyOf S b with
  | some p, some q => if eqOk p q then .ok (.bl (!PyData.eqv p q)) S else .stuck
  | _, _ => .stuck
theorem fn_eq : Fn2 C W (rEqM K) eqD := fun σ d e v w S μ F H Q s r1 r2 P => by
  unfold eqD at P
  split at P
  · rename_i p q e1 e2
    split at P
    · rename_i hc
      exact ⟨p, q, dpOf s r1 e1, dpOf s r2 e2, hc, P μ F H (Go.refl _ _ _) s _ (by simp only [Rep])⟩
    · exact False.elim P
  · exact False.elim P
theorem fn_ne : Fn2 C W (rNeM K) neD := fun σ d e v w S μ F H Q s r1 r2 P => by
  unfold neD at P
  split at P
  · rename_i p q e1 e2
    split at P
    · rename_i hc
      exact ⟨p, q, dpOf s r1 e1, dpOf s r2 e2, hc, P μ F H (Go.refl _ _ _) s _ (by simp only [Rep])⟩
    · exact False.elim P
  · exact False.elim P
/-- is None -/
def D.isNon : D → Bool
  | .non => true
  | _ => false
theorem rep_non {μ : List Addr} {F : Hp} {d : D} {v : V} (r : Rep μ F d v) : decide (v = .non) = d.isNon := by
  cases d <;> simp only [Rep] at r
  case non => simp [r, D.isNon]
  case tup => obtain ⟨a, vs, rfl, _⟩ := r; rfl
  case lst => obtain ⟨a, vs, rfl, _⟩ := r; rfl
  case dic => obtain ⟨a, vs, o, rfl, _⟩ := r; rfl
  case ref => obtain ⟨a, rfl, _⟩ := r; rfl
  all_goals (subst r; rfl)
def mIsN (ma : Env → M D) : Env → M D := fun env => bnd (ma env) fun a => ret (.bl a.isNon)
def mNotN (ma : Env → M D) : Env → M D := fun env => bnd (ma env) fun a => ret (.bl (!a.isNon))
theorem pv_isN {a : Expr} {ma : Env → M D} {ta : TE} {j pos pos'} (ha : PV X C W a ma ta) : PV X C W (.Compare a [.Is] [.Constant .none j pos'] pos) (mIsN ma) (tIsN ta) := by
  refine ⟨pe_cmp (pc_isN ha.pe), fun σ env S μ F H E s Q P => ?_⟩
  show ta σ H fun x H1 => Q (.bl (decide (x = .non))) H1
  refine Snd.bind ha.snd E s P fun d v S1 μ1 F1 H1 g1 s1 E1 r1 P1 => ?_
  rw [rep_non r1]
  exact Post.here P1 s1 _ (by simp only [relD, Rep])
theorem pv_notN {a : Expr} {ma : Env → M D} {ta : TE} {j pos pos'} (ha : PV X C W a ma ta) : PV X C W (.Compare a [.IsNot] [.Constant .none j pos'] pos) (mNotN ma) (tNotN ta) := by
  refine ⟨pe_cmp (pc_notN ha.pe), fun σ env S μ F H E s Q P => ?_⟩
  show ta σ H fun x H1 => Q (.bl (!decide (x = .non))) H1
  refine Snd.bind ha.snd E s P fun d v S1 μ1 F1 H1 g1 s1 E1 r1 P1 => ?_
  rw [rep_non r1]
  exact Post.here P1 s1 _ (by simp only [relD, Rep])
end
end Mir

set_option Elab.async false
set_option maxRecDepth 100000
set_option linter.all false
set_option maxHeartbeats 4000000
namespace Mir
open PySem PySem.Spec PyProof.Rows L2
/-! ### t[::-1] of a tuple -/
section
variable {prog : Program} {w : World} {A : Around} {E : Value → Shared → Prop} {s : Shared}
theorem back_places (n : Nat) : Builtin.Slice.slicePlaces ((n : Int) - 1) (-1) (-1) = n := by
  unfold Builtin.Slice.slicePlaces
  have h1 : ¬ ((-1 : Int) > 0) := by omega
  simp only [h1, if_false]
  split
  · simp
  · omega
theorem back_applied {sl : Addr} {n : Nat} {vc : Value} {Q : Int × Int × Nat → Shared → Prop} (hs : s.heap.IsSliceOf sl .none .none vc) (pc : IsPart vc (some (-1)))
    (h : Q ((n : Int) - 1, -1, n) s) : wpAny (model prog w) A (Builtin.Slice.sliceApplied (.ref sl) (pure (n : Int))) Q E s := by
  obtain ⟨os, hos, hcs, hds⟩ := id hs
  unfold Builtin.Slice.sliceApplied Builtin.Slice.sliceFields
  refine wpAny_bind (wpAny_bind (wpAny_field hos hds rfl (wpAny_bind (wpAny_field hos hds rfl (wpAny_bind (wpAny_field hos hds rfl (wpAny_pure ?_)))))))
  refine wpAny_bind (HT.slicePart_ pc ?_)
  show wpAny _ _ (if ((-1 : Int) == 0) = true then _ else _) _ _ s
  rw [if_neg (by decide)]
  refine wpAny_bind (HT.slicePart_ .none (wpAny_bind (HT.slicePart_ .none (wpAny_bind (wpAny_pure ?_)))))
  have e : Builtin.Slice.sliceAdjust none none (-1) (n : Int) = ((n : Int) - 1, -1) := by
    unfold Builtin.Slice.sliceAdjust
    simp
  simp only [Option.getD_some, e, back_places]
  exact wpAny_pure h
theorem back_pick (xs : Array Value) : ((List.range xs.size).filterMap fun (m : Nat) => xs[(((xs.size : Int) - 1) + (m : Int) * (-1)).toNat]?).toArray = xs.toList.reverse.toArray := by
  have e : (fun (m : Nat) => xs[(((xs.size : Int) - 1) + (m : Int) * (-1)).toNat]?) = (fun k : Nat => xs[k]?) ∘ fun m => xs.size - 1 - m := by
    funext m
    have : (((xs.size : Int) - 1) + (m : Int) * (-1)).toNat = xs.size - 1 - m := by omega
    simp only [this, Function.comp]
  rw [e, ← List.filterMap_map, PySem.W.krv_range, List.filterMap_reverse, PySem.W.krv_all]
theorem tuple_back {t sl : Addr} {items : Array Value} {vc : Value} {Q : Value → Shared → Prop} (ht : IsTup s.heap t items) (hs : s.heap.IsSliceOf sl .none .none vc) (pc : IsPart vc (some (-1)))
    (h : Q (.ref s.heap.objs.size) { s with heap := s.heap.push { cls := .type "tuple", data := .seq items.toList.reverse.toArray } }) (hz : items.size ≤ sizeLine) : wpAny (model prog w) A (getItem (.ref t) (.ref sl)) Q E s := by
  have hsize : sizeOk (.seq items.toList.reverse.toArray) := by
    show items.toList.reverse.toArray.size ≤ sizeLine
    simpa using hz
  obtain ⟨os, hos, hcs, _⟩ := id hs
  have isSl : s.TypeIs (.ref sl) "slice" := ⟨os, hos, hcs⟩
  unfold getItem
  try with_reducible refine wpAny_holding ?_
  first
    | refine wpAny_bind (wpAny_pure ?_)
    | skip
  refine wpAny_bind (wpAny_sequenceKey ht.typeIs (by decide) (wpAny_bind (wpAny_callSpecial?_slot (name := Str.ofString "__getitem__") ht.typeIs PyProof.Rows.slot_tuple_getitem (wpAny_call_entry PyProof.Rows.slot_tuple_getitem ht.typeIs entry_tuple_getitem ?_ (args_tuple_getitem _ _)))))
  show wpAny _ _ (Builtin.Tuple.tupleItemsOf (.ref t) >>= _) _ _ s
  refine wpAny_bind (tupleItemsOf_ ht (wpAny_bind (wpAny_typeOf isSl ?_)))
  rw [if_pos (by decide)]
  refine wpAny_bind (back_applied hs pc ?_)
  show wpAny _ _ (if ((((items.size : Int) - 1) == 0 && (-1 : Int) == 1) && items.size == items.size) = true then _ else _) _ _ s
  rw [if_neg (by simp), back_pick]
  first
    | exact wpAny_bind (m := Builtin.Tuple.tupleExact _) (wpAny_newObj_type (wpAny_pure ⟨_, rfl, wpAny_pure h⟩) hsize)
    | exact wpAny_bind (m := Builtin.Tuple.tupleExact _) (wpAny_newObj_type (wpAny_bind (wpAny_pure (wpAny_pure ⟨_, rfl, wpAny_pure h⟩))) hsize)
    | exact wpAny_bind (wpAny_bind (m := Builtin.Tuple.tupleExact _) (wpAny_newObj_type (wpAny_pure (wpAny_pure ⟨_, rfl, wpAny_pure h⟩)) hsize))
    | exact wpAny_bind (wpAny_bind (m := Builtin.Tuple.tupleExact _) (wpAny_newObj_type (wpAny_pure ⟨_, rfl, wpAny_pure h⟩) hsize))
end
section
variable {X : Cx} {C : Nat → Addr} {W : WX}
def tBackT (te : TE) : TE := fun σ H Q => te σ H fun x H1 => ∃ a xs, x = .ref a ∧ H1 a = some (.tup xs) ∧ ∀ p, H1 p = none → Q (.ref p) (upd H1 p (.tup xs.reverse))
theorem pe_backT {e : Expr} {te : TE} {k : Nat} {p1 p2 p3 pos : Pos} (he : PE X e te) : PE X (.Subscript e (.Slice none none (some (.UnaryOp .USub (.Constant (.int 1) k p1) p2)) p3) pos) (tBackT te) := ⟨fun pins s σ H Q I h => by
  refine Subscript_ (thn (he.run pins s σ H _ I h) fun v s1 ⟨x, H1, I1, r1, a, xs, ex, hx, q⟩ => ?_)
  subst ex
  obtain rfl : v = Value.ref a := r1
  have hst : PO X (some (.UnaryOp .USub (.Constant (.int 1) k p1) p2)) (tPart (tUn (rU fun i => .int (-i)) (tC (.int 1)))) := po_some (pe_un un_neg pe_int)
  refine wpAny_Slice (thn (po_none.run pins s1 σ H1 (fun o H2 => o = none ∧ H2 = H1) I1 ⟨rfl, rfl⟩) fun vl s2 ⟨l, H2, I2, pl, el, e2⟩ => thn (po_none.run pins s2 σ H2 (fun o H3 => o = none ∧ H3 = H2) I2 ⟨rfl, rfl⟩) fun vu s3 ⟨u, H3, I3, pu, eu, e3⟩ =>
    thn (hst.run pins s3 σ H3 (fun o H4 => o = some (-1) ∧ H4 = H3) I3 ⟨1, rfl, -1, rfl, rfl, rfl⟩) fun vs s4 ⟨o, H4, I4, ps, eo, e4⟩ => ?_)
  subst el; subst e2; subst eu; subst e3; subst eo; subst e4
  cases pl
  cases pu
  have I5 : Inv X pins σ H4 { s4 with heap := s4.heap.push { cls := .type "slice", data := .fields #[.none, .none, vs] } } := I4.kept (t' := s4.toks) fun b ob q => Heap.get?_push_of_some _ q
  obtain ⟨its, r, ht, hz⟩ := I5.tuple (.inl (.inl hx))
  have hl : its.length ≤ sizeLine := by rw [← r.length]; exact hz
  refine tail_any (ops := [.ref a, .ref s4.heap.objs.size]) ht.typeIs (PyProof.Rows.slot_tuple_getitem.lookup) ?_ (by with_unfolding_all rfl)
  refine tuple_back ht (Heap.IsSliceOf.new _ .none .none vs) ps ?_ (by simpa using hl)
  exact ⟨.ref _, _, I5.laid (t' := s4.toks) (o := .tup xs.reverse) (fun b ob q => Heap.get?_push_of_some _ q) (Nat.le_refl _) ⟨by simpa using hz, its.reverse, r.reverse, _, Heap.get?_push_size _ rfl, rfl, 0, rfl⟩, rfl, q _ (I5.hok.fresh (Nat.le_refl _))⟩⟩
def backD : D → M D := fun d S => match d with
  | .tup ds => .ok (.tup ds.reverse) S
  | _ => .stuck
theorem pv_back {e : Expr} {te : TE} {m : Env → M D} {k : Nat} {p1 p2 p3 pos : Pos} (he : PV X C W e m te) : PV X C W (.Subscript e (.Slice none none (some (.UnaryOp .USub (.Constant (.int 1) k p1) p2)) p3) pos) (mUn backD m) (tBackT te) := by
  refine ⟨pe_backT he.pe, fun σ env S μ F H E s Q P => ?_⟩
  show te σ H fun x H1 => ∃ a xs, x = .ref a ∧ H1 a = some (.tup xs) ∧ ∀ p, H1 p = none → Q (.ref p) (upd H1 p (.tup xs.reverse))
  refine Snd.bind he.snd E s P fun d v S1 μ1 F1 H1 g1 s1 E1 r1 P1 => ?_
  unfold backD at P1
  split at P1
  · simp only [relD, Rep] at r1
    obtain ⟨a, vs, rfl, q, z, r2⟩ := r1
    exact ⟨a, vs, rfl, s1.ext _ _ q, fun p hp => new_tup s1 r2.reverse (by simpa using z) P1 hp⟩
  · exact False.elim P1
end
end Mir

set_option Elab.async false
set_option maxRecDepth 100000
set_option linter.all false
set_option maxHeartbeats 4000000
namespace Mir
open PySem PySem.Spec PyProof.Rows L2
open Classical
section
variable {X : Cx} {C : Nat → Addr} {W : WX} {K : PySem.W.Frag}
/-! ### in -/
def flatD : D → Bool
  | .non => true
  | .bl _ => true
  | .int _ => true
  | .str _ => true
  | _ => false
def eqF : D → D → Bool
  | .non, .non => true
  | .bl a, .bl b => a == b
  | .bl a, .int b => (if a then 1 else 0) == b
  | .int a, .bl b => a == (if b then 1 else 0)
  | .int a, .int b => a == b
  | .str a, .str b => a == b
  | _, _ => false
def toV : D → V
  | .non => .non
  | .bl b => .bl b
  | .int i => .int i
  | .str x => .str x
  | _ => .non
theorem rep_flat {μ : List Addr} {F : Hp} {d : D} {v : V} (r : Rep μ F d v) (f : flatD d = true) : v = toV d := by
  cases d <;> simp only [Rep] at r <;> first | exact r | cases f
theorem flat_toV {d : D} (f : flatD d = true) : flatV (toV d) = true := by cases d <;> first | rfl | cases f
theorem eqV_toV {d e : D} (f : flatD d = true) (g : flatD e = true) : eqV (toV d) (toV e) = eqF d e := by cases d <;> first | (simp [flatD] at f; done) | (cases e <;> first | rfl | (simp [flatD] at g; done))
theorem reps_flat {μ : List Addr} {F : Hp} : ∀ {ds : List D} {vs : List V}, Reps μ F ds vs → ds.all flatD = true → vs = ds.map toV
  | [], vs, r, _ => r.nil_inv
  | d :: ds, vs, r, f => by
    obtain ⟨v, r', rfl, r1, r2⟩ := r.uncons
    rw [List.all_cons, Bool.and_eq_true] at f
    rw [rep_flat r1 f.1, reps_flat r2 f.2, List.map_cons]
def inF (d : D) (ds : List D) : Bool := ds.any fun e => eqF e d
theorem inV_toV {d : D} (f : flatD d = true) : ∀ {ds : List D}, ds.all flatD = true → inV (toV d) (ds.map toV) = inF d ds
  | [], _ => rfl
  | e :: ds, h => by
    rw [List.all_cons, Bool.and_eq_true] at h
    have := inV_toV f h.2
    unfold inV inF at this ⊢
    rw [List.map_cons, List.any_cons, List.any_cons, eqV_toV h.1 f, this]
/-- d in a list or tuple of flat things -/
def inD : D → D → M D := fun a b S => match seqOf S b with
  | some (_, ds) => if flatD a = true ∧ ds.all flatD = true then .ok (.bl (inF a ds)) S else .stuck
  | none => .stuck
def ninD : D → D → M D := fun a b S => match seqOf S b with
  | some (_, ds) => if flatD a = true ∧ ds.all flatD = true then .ok (.bl (!inF a ds)) S else .stuck
  | none => .stuck
theorem fn_in : Fn2 C W (rIn K false) inD := fun σ d e v w S μ F H Q s r1 r2 P => by
  unfold inD at P
  split at P
  · rename_i b ds q
    split at P
    · rename_i hc
      obtain ⟨a, vs, rfl, r3, at1, _⟩ := seq_of s r2 q
      have e1 := rep_flat r1 hc.1
      have e2 := reps_flat r3 hc.2
      subst e1; subst e2
      exact ⟨a, _, rfl, at1.sq, flat_toV hc.1, by rw [List.all_map]; exact List.all_eq_true.mpr fun x hx => flat_toV (List.all_eq_true.mp hc.2 x hx), by rw [if_neg Bool.false_ne_true, inV_toV hc.1 hc.2]; exact P μ F H (Go.refl _ _ _) s _ (by simp only [Rep])⟩
    · exact False.elim P
  · exact False.elim P
theorem fn_nin : Fn2 C W (rIn K true) ninD := fun σ d e v w S μ F H Q s r1 r2 P => by
  unfold ninD at P
  split at P
  · rename_i b ds q
    split at P
    · rename_i hc
      obtain ⟨a, vs, rfl, r3, at1, _⟩ := seq_of s r2 q
      have e1 := rep_flat r1 hc.1
      have e2 := reps_flat r3 hc.2
      subst e1; subst e2
      exact ⟨a, _, rfl, at1.sq, flat_toV hc.1, by rw [List.all_map]; exact List.all_eq_true.mpr fun x hx => flat_toV (List.all_eq_true.mp hc.2 x hx), by rw [if_pos rfl, inV_toV hc.1 hc.2]; exact P μ F H (Go.refl _ _ _) s _ (by simp only [Rep])⟩
    · exact False.elim P
  · exact False.elim P
/-- d in a list of data of any depth -/
noncomputable def inDeep : D → D → M D := fun a b S => match pyOf S a, pyOf S b with
  | some p, some (.list qs) => if SeqAt.shaped p = true ∧ SeqAt.shaped (.list qs) = true then .ok (.bl (qs.any fun z => PyData.eqv z p)) S else .stuck
  | _, _ => .stuck
theorem fn_inDeep : Fn2 C W (rInD K) inDeep := fun σ d e v w S μ F H Q s r1 r2 P => by
  unfold inDeep at P
  split at P
  · rename_i p qs e1 e2
    split at P
    · rename_i hc
      exact ⟨p, qs, dpOf s r1 e1, dpOf s r2 e2, hc.1, hc.2, P μ F H (Go.refl _ _ _) s _ (by simp only [Rep])⟩
    · exact False.elim P
  · exact False.elim P

/-! ### items, slices -/
def ixD : D → D → M D := fun a b S => match b with
  | .int i => (match seqOf S a with
    | some (_, ds) => (match atI ds i with
      | some d => .ok d S
      | none => .stuck)
    | none => (match a with
      | .str z => if z.length ≤ sizeLine then (match atI z.cps.toList i with
        | some c => .ok (.str ⟨#[c]⟩) S
        | none => .stuck) else .stuck
      | _ => .stuck))
  | _ => .stuck
theorem atI_rep {μ : List Addr} {F : Hp} {ds : List D} {vs : List V} {i : Int} {d : D} (r : Reps μ F ds vs) (h : atI ds i = some d) : ∃ v, atI vs i = some v ∧ Rep μ F d v := by
  unfold atI at h ⊢
  rw [← r.length]
  cases q : ixN ds.length i with
  | none => rw [q] at h; cases h
  | some j =>
    rw [q] at h
    obtain ⟨v, v1, v2⟩ := r.get (show ds[j]? = some d from h)
    exact ⟨v, v1, v2⟩
theorem fn_ix : Fn2 C W (rIx K) ixD := fun σ d e v w S μ F H Q s r1 r2 P => by
  unfold ixD at P
  split at P
  · rename_i i
    simp only [Rep] at r2
    subst r2
    split at P
    · rename_i b ds q
      obtain ⟨a, vs, rfl, r3, at1, _⟩ := seq_of s r1 q
      split at P
      · rename_i x hx
        obtain ⟨y, y1, y2⟩ := atI_rep r3 hx
        have fin : Q y H := P μ F H (Go.refl _ _ _) s y y2
        cases b with
        | true => exact .inr (.inl ⟨a, vs, i, y, rfl, rfl, .inl (.inl (at1.tup rfl)), y1, fin⟩)
        | false => exact .inl ⟨a, vs, i, y, rfl, rfl, .inl (at1.lst rfl), y1, fin⟩
      · exact False.elim P
    · split at P
      · rename_i z _
        simp only [Rep] at r1
        subst r1
        split at P
        · rename_i hz
          split at P
          · rename_i c hc
            exact .inr (.inr ⟨z, i, c, rfl, rfl, hz, hc, P μ F H (Go.refl _ _ _) s _ (by simp only [Rep])⟩)
          · exact False.elim P
        · exact False.elim P
      · exact False.elim P
  · exact False.elim P
def cutD (xs : List D) (lo hi : Option Int) : List D := (xs.drop (HT.sIx xs.length 0 lo)).take (HT.sIx xs.length xs.length hi - HT.sIx xs.length 0 lo)
theorem cut_rep {μ : List Addr} {F : Hp} {ds : List D} {vs : List V} (r : Reps μ F ds vs) (lo hi : Option Int) : Reps μ F (cutD ds lo hi) (cutV vs lo hi) := by
  unfold cutD cutV
  rw [r.length]
  exact (r.drop _).take _
theorem cutD_length (xs : List D) (lo hi : Option Int) : (cutD xs lo hi).length ≤ xs.length := by
  unfold cutD
  rw [List.length_take, List.length_drop]
  omega
def slD : D → Option Int → Option Int → M D := fun d lo hi S => match seqOf S d with
  | some (true, ds) => .ok (.tup (cutD ds lo hi)) S
  | some (false, ds) => .ok (.lst (cutD ds lo hi)) S
  | none => .stuck
def rSl (K : PySem.W.Frag) : V → Option Int → Option Int → Hp → VK → Prop := fun x lo hi H Q => rSlA K x lo hi H Q ∨ rSlL K x lo hi H Q
theorem sl_any : SlR X (rSl X.K) := SlR.or sl_tupA sl_list
theorem fn_sl : FnSl C W (rSl K) slD := fun σ d v lo hi S μ F H Q s r1 P => by
  unfold slD at P
  split at P
  · rename_i ds q
    obtain ⟨a, vs, rfl, r3, at1, z⟩ := seq_of s r1 q
    have e := rep_at_tup s r1 q
    subst e
    refine .inl ⟨a, vs, rfl, .inl (.inl (at1.tup rfl)), fun hw => ?_, fun _ p hp => new_tup s (cut_rep r3 lo hi) (Nat.le_trans (cutD_length _ _ _) z) P hp⟩
    have e : cutD ds lo hi = ds := by
      unfold cutD
      rw [← r3.length] at hw
      rw [hw.1, hw.2, List.drop_zero, Nat.sub_zero, List.take_length]
    rw [e] at P
    exact P μ F H (Go.refl _ _ _) s _ r1
  · rename_i ds q
    obtain ⟨a, vs, rfl, r3, at1, z⟩ := seq_of s r1 q
    exact .inr ⟨a, vs, rfl, .inl (at1.lst rfl), fun p hp => new_lst s (cut_rep r3 lo hi) (Nat.le_trans (cutD_length _ _ _) z) P hp⟩
  · exact False.elim P
/-! ### an item stored -/
def setD : D → D → D → Store → Option Store := fun o i d S => match o, i with
  | .ref n, .int k => (match S[n]? with
    | some (.lst ds) => (ixN ds.length k).map fun j => S.set n (.lst (ds.set j d))
    | _ => none)
  | _, _ => none
theorem fn_set : FnSet rSetL setD := fun o i d v w u S μ F H S' Q s r1 r2 r3 e k => by
  unfold setD at e
  split at e
  · rename_i n j
    split at e
    · rename_i ds hS
      obtain ⟨m, hm, e⟩ := Option.map_eq_some_iff.mp e
      subst e
      simp only [Rep] at r1 r2
      obtain ⟨a, rfl, ha⟩ := r1
      subst r2
      obtain ⟨vs, q1, q2, q3, q4⟩ := s.obj n _ a hS ha
      refine ⟨a, vs, j, m, rfl, rfl, q1, by rw [← q2.length]; exact hm, ?_⟩
      obtain ⟨s2, g2⟩ := s.put (o := .lst (vs.set m u)) (ob := .lst (ds.set m d)) ha q3 ⟨vs.set m u, upd_same, Reps.set r3 m q2, q3, by simpa using q4⟩
      exact k _ g2 s2
    · cases e
  · cases e

/-! ### built-ins -/
def lenD : List D → M D := fun ds S => match ds with
  | [d] => (match seqOf S d with
    | some (_, xs) => .ok (.int xs.length) S
    | none => (match d with
      | .str z => if z.length ≤ sizeLine then .ok (.int z.length) S else .stuck
      | _ => .stuck))
  | _ => .stuck
def rLenM (K : PySem.W.Frag) : List V → Hp → VK → Prop := fun xs H Q => (∃ p ys, xs = [.ref p] ∧ (SqL K H p ys ∨ SqT K H p ys) ∧ Q (.int ys.length) H) ∨ (∃ z, xs = [.str z] ∧ z.length ≤ sizeLine ∧ Q (.int z.length) H)
theorem cr_len : CallR X (.builtin "len") (rLenM X.K) := CallR.or call_len_seq call_len_str
theorem reps1 {μ : List Addr} {F : Hp} {d : D} {vs : List V} (r : Reps μ F [d] vs) : ∃ v, vs = [v] ∧ Rep μ F d v := by
  obtain ⟨v, r', rfl, h1, h2⟩ := r.uncons
  cases h2.nil_inv
  exact ⟨v, rfl, h1⟩
theorem reps2 {μ : List Addr} {F : Hp} {d e : D} {vs : List V} (r : Reps μ F [d, e] vs) : ∃ v w, vs = [v, w] ∧ Rep μ F d v ∧ Rep μ F e w := by
  obtain ⟨v, r', rfl, h1, h2⟩ := r.uncons
  obtain ⟨w, rfl, h3⟩ := reps1 h2
  exact ⟨v, w, rfl, h1, h3⟩
theorem fn_len : FnL C W (rLenM K) lenD := fun σ ds vs S μ F H Q s r P => by
  unfold lenD at P
  split at P
  · rename_i d
    obtain ⟨v, rfl, r1⟩ := reps1 r
    split at P
    · rename_i b xs q
      obtain ⟨a, ws, rfl, r3, at1, _⟩ := seq_of s r1 q
      rw [r3.length] at P
      exact .inl ⟨a, ws, rfl, at1.sq, P μ F H (Go.refl _ _ _) s _ (by simp only [Rep])⟩
    · split at P
      · rename_i z _
        split at P
        · rename_i hz
          simp only [Rep] at r1
          subst r1
          exact .inr ⟨z, rfl, hz, P μ F H (Go.refl _ _ _) s _ (by simp only [Rep])⟩
        · exact False.elim P
      · exact False.elim P
  · exact False.elim P
/-- all are True or False -/
def boolsOf : List D → Option (List Bool)
  | [] => some []
  | .bl b :: ds => (boolsOf ds).map (b :: ·)
  | _ => none
theorem bools_rep {μ : List Addr} {F : Hp} : ∀ {ds : List D} {vs : List V} {bs : List Bool}, Reps μ F ds vs → boolsOf ds = some bs → vs = bs.map V.bl
  | [], vs, bs, r, e => by cases e; exact r.nil_inv
  | .bl b :: ds, vs, bs, r, e => by
    obtain ⟨v, r', rfl, r1, r2⟩ := r.uncons
    simp only [boolsOf, Option.map_eq_some_iff] at e
    obtain ⟨cs, e1, rfl⟩ := e
    simp only [Rep] at r1
    rw [r1, bools_rep r2 e1, List.map_cons]
  | .non :: _, _, _, _, e => by cases e
  | .int _ :: _, _, _, _, e => by cases e
  | .str _ :: _, _, _, _, e => by cases e
  | .ty _ :: _, _, _, _, e => by cases e
  | .tup _ :: _, _, _, _, e => by cases e
  | .lst _ :: _, _, _, _, e => by cases e
  | .dic _ _ :: _, _, _, _, e => by cases e
  | .ref _ :: _, _, _, _, e => by cases e
def allD : List D → M D := fun ds S => match ds with
  | [d] => (match seqOf S d with
    | some (false, xs) => (match boolsOf xs with
      | some bs => .ok (.bl (bs.all id)) S
      | none => .stuck)
    | _ => .stuck)
  | _ => .stuck
def anyD : List D → M D := fun ds S => match ds with
  | [d] => (match seqOf S d with
    | some (false, xs) => (match boolsOf xs with
      | some bs => .ok (.bl (bs.any id)) S
      | none => .stuck)
    | _ => .stuck)
  | _ => .stuck
theorem fn_all : FnL C W (rAll K) allD := fun σ ds vs S μ F H Q s r P => by
  unfold allD at P
  split at P
  · obtain ⟨v, rfl, r1⟩ := reps1 r
    split at P
    · rename_i xs q
      split at P
      · rename_i bs e
        obtain ⟨a, ws, rfl, r3, at1, _⟩ := seq_of s r1 q
        have := bools_rep r3 e
        subst this
        exact ⟨a, bs, rfl, .inl (at1.lst rfl), P μ F H (Go.refl _ _ _) s _ (by simp only [Rep])⟩
      · exact False.elim P
    · exact False.elim P
  · exact False.elim P
theorem fn_any : FnL C W (rAny K) anyD := fun σ ds vs S μ F H Q s r P => by
  unfold anyD at P
  split at P
  · obtain ⟨v, rfl, r1⟩ := reps1 r
    split at P
    · rename_i xs q
      split at P
      · rename_i bs e
        obtain ⟨a, ws, rfl, r3, at1, _⟩ := seq_of s r1 q
        have := bools_rep r3 e
        subst this
        exact ⟨a, bs, rfl, .inl (at1.lst rfl), P μ F H (Go.refl _ _ _) s _ (by simp only [Rep])⟩
      · exact False.elim P
    · exact False.elim P
  · exact False.elim P
/-- the type of a value, by its name -/
def tyName (S : Store) : D → String
  | .non => "NoneType"
  | .bl _ => "bool"
  | .int _ => "int"
  | .str _ => "str"
  | .tup _ => "tuple"
  | .lst _ => "list"
  | .dic _ _ => "dict"
  | .ty _ => ""
  | .ref n => match S[n]? with
    | some (.lst _) => "list"
    | some (.fz _) => "list"
    | some (.dic _ _) => "dict"
    | _ => ""
theorem tyx_of {S : Store} {μ : List Addr} {F H : Hp} (s : Sim S μ F H) {d : D} {v : V} (r : Rep μ F d v) (h : tyName S d ≠ "") : TyX K H v (.type (tyName S d)) := by
  cases d with
  | non => simp only [Rep] at r; subst r; exact .base .non
  | bl b => simp only [Rep] at r; subst r; exact .base (.bl b)
  | int b => simp only [Rep] at r; subst r; exact .base (.int b)
  | str b => simp only [Rep] at r; subst r; exact .base (.str b)
  | ty n => exact absurd rfl h
  | tup ds => simp only [Rep] at r; obtain ⟨a, vs, rfl, q, _⟩ := r; exact .base (.tup (s.ext _ _ q))
  | lst ds =>
    simp only [Rep] at r
    obtain ⟨a, vs, rfl, q, _⟩ := r
    rcases q with q | ⟨o, q⟩
    · exact .base (.lst (s.ext _ _ q))
    · exact .base (.frz (s.ext _ _ q))
  | dic ks ds => simp only [Rep] at r; obtain ⟨a, vs, o, rfl, q, _⟩ := r; exact .fDict (s.ext _ _ q)
  | ref n =>
    simp only [Rep] at r
    obtain ⟨a, rfl, ha⟩ := r
    have h' : (match S[n]? with | some (.lst _) => "list" | some (.fz _) => "list" | some (.dic _ _) => "dict" | _ => "") ≠ "" := h
    show TyX K H (.ref a) (.type (match S[n]? with | some (.lst _) => "list" | some (.fz _) => "list" | some (.dic _ _) => "dict" | _ => ""))
    cases q : S[n]? with
    | none => rw [q] at h'; exact absurd rfl h'
    | some o =>
      have z := s.obj n o a q ha
      cases o with
      | lst xs => obtain ⟨vs, z1, _⟩ := z; exact .base (.lst z1)
      | fz xs => obtain ⟨vs, z1, _⟩ := z; exact .base (.lst (s.ext _ _ z1))
      | dic ks xs => obtain ⟨vs, z1, _⟩ := z; exact .base (.dK z1)
      | dead => rw [q] at h'; exact absurd rfl h'
def isiD : List D → M D := fun ds S => match ds with
  | [d, .ty n] => if tyName S d ≠ "" then (match kitB (tyName S d) n with
    | some b => .ok (.bl b) S
    | none => .stuck) else .stuck
  | _ => .stuck
theorem fn_isi : FnL C W (rIsi K) isiD := fun σ ds vs S μ F H Q s r P => by
  unfold isiD at P
  split at P
  · rename_i d n
    obtain ⟨v, w, rfl, r1, r2⟩ := reps2 r
    split at P
    · rename_i hn
      split at P
      · rename_i b hb
        simp only [Rep] at r2
        subst r2
        exact ⟨v, .ty n, _, _, b, rfl, .ty n, tyx_of s r1 hn, kit_ty hb, P μ F H (Go.refl _ _ _) s _ (by simp only [Rep])⟩
      · exact False.elim P
    · exact False.elim P
  · exact False.elim P
/-- isinstance(x, (T, U)) -/
def isi2D : List D → M D := fun ds S => match ds with
  | [d, .tup [.ty n, .ty m]] => if tyName S d ≠ "" then (match kitB (tyName S d) n, kitB (tyName S d) m with
    | some b, some c => .ok (.bl (b || c)) S
    | _, _ => .stuck) else .stuck
  | _ => .stuck
theorem fn_isi2 : FnL C W (rIsiT K) isi2D := fun σ ds vs S μ F H Q s r P => by
  unfold isi2D at P
  split at P
  · rename_i d n m
    obtain ⟨v, w, rfl, r1, r2⟩ := reps2 r
    split at P
    · rename_i hn
      split at P
      · rename_i b c hb hc
        simp only [Rep] at r2
        obtain ⟨a, ws, rfl, q, _, r3⟩ := r2
        obtain ⟨x, y, rfl, x1, y1⟩ := reps2 r3
        simp only [Rep] at x1 y1
        subst x1; subst y1
        refine ⟨v, a, [.ty n, .ty m], _, [.type n, .type m], b || c, rfl, s.ext _ _ q, .cons (.ty n) (.cons (.ty m) .nil), tyx_of s r1 hn, ?_, P μ F H (Go.refl _ _ _) s _ (by simp only [Rep])⟩
        refine kitAny_cons (kit_ty hb) (fun e => ?_) fun e => by rw [e]; rfl
        rw [e, Bool.false_or]
        exact kitAny_cons (kit_ty hc) (fun e => by rw [e]; exact kitAny_nil) fun e => e
      · exact False.elim P
    · exact False.elim P
  · exact False.elim P
/-- ints alone -/
def intsOf : List D → Option (List Int)
  | [] => some []
  | .int b :: ds => (intsOf ds).map (b :: ·)
  | _ => none
theorem ints_rep {μ : List Addr} {F : Hp} : ∀ {ds : List D} {vs : List V} {bs : List Int}, Reps μ F ds vs → intsOf ds = some bs → vs = bs.map V.int
  | [], vs, bs, r, e => by cases e; exact r.nil_inv
  | .int b :: ds, vs, bs, r, e => by
    obtain ⟨v, r', rfl, r1, r2⟩ := r.uncons
    simp only [intsOf, Option.map_eq_some_iff] at e
    obtain ⟨cs, e1, rfl⟩ := e
    simp only [Rep] at r1
    rw [r1, ints_rep r2 e1, List.map_cons]
  | .non :: _, _, _, _, e => by cases e
  | .bl _ :: _, _, _, _, e => by cases e
  | .str _ :: _, _, _, _, e => by cases e
  | .ty _ :: _, _, _, _, e => by cases e
  | .tup _ :: _, _, _, _, e => by cases e
  | .lst _ :: _, _, _, _, e => by cases e
  | .dic _ _ :: _, _, _, _, e => by cases e
  | .ref _ :: _, _, _, _, e => by cases e
theorem rep_ints {μ : List Addr} {F : Hp} : ∀ (bs : List Int), Reps μ F (bs.map D.int) (bs.map V.int)
  | [] => reps_nil
  | b :: bs => Reps.cons (by simp only [Rep]) (rep_ints bs)
/-- max(xs) of ints -/
def maxD : List D → M D := fun ds S => match ds with
  | [d] => (match seqOf S d with
    | some (false, xs) => (match intsOf xs with
      | some (n :: ns) => .ok (.int (ns.foldl max n)) S
      | _ => .stuck)
    | _ => .stuck)
  | _ => .stuck
theorem foldl_max_mem (ns : List Int) : ∀ n : Int, ns.foldl max n ∈ n :: ns ∧ ∀ y ∈ n :: ns, y ≤ ns.foldl max n := by
  induction ns with
  | nil => intro n; simp
  | cons m ns ih =>
    intro n
    obtain ⟨h1, h2⟩ := ih (max n m)
    rw [List.foldl_cons]
    refine ⟨?_, fun y hy => ?_⟩
    · rcases List.mem_cons.mp h1 with e | e
      · rw [e]
        by_cases h : n ≤ m
        · rw [Int.max_eq_right h]; simp
        · rw [Int.max_eq_left (by omega)]; simp
      · simp [e]
    · have h3 := h2 (max n m) (by simp)
      rcases List.mem_cons.mp hy with e | hy
      · omega
      · rcases List.mem_cons.mp hy with e | hy
        · omega
        · exact h2 y (by simp [hy])
theorem fn_max : FnL C W (rMax K) maxD := fun σ ds vs S μ F H Q s r P => by
  unfold maxD at P
  split at P
  · obtain ⟨v, rfl, r1⟩ := reps1 r
    split at P
    · rename_i xs q
      split at P
      · rename_i n ns e
        obtain ⟨a, ws, rfl, r3, at1, _⟩ := seq_of s r1 q
        have := ints_rep r3 e
        subst this
        refine ⟨a, n :: ns, rfl, .inl (at1.lst rfl), by simp, fun m hm hall => ?_⟩
        obtain ⟨h1, h2⟩ := foldl_max_mem ns n
        have : m = ns.foldl max n := by
          have := hall _ h1
          have := h2 m hm
          omega
        rw [this]
        exact P μ F H (Go.refl _ _ _) s _ (by simp only [Rep])
      · exact False.elim P
    · exact False.elim P
  · exact False.elim P
def max2D : List D → M D := fun ds S => match ds with
  | [.int i, .int j] => .ok (.int (if j > i then j else i)) S
  | _ => .stuck
def min2D : List D → M D := fun ds S => match ds with
  | [.int i, .int j] => .ok (.int (if j < i then j else i)) S
  | _ => .stuck
theorem fn_max2 : FnL C W (fun xs H Q => ∃ i j, xs = [.int i, .int j] ∧ Q (.int (if j > i then j else i)) H) max2D := fun σ ds vs S μ F H Q s r P => by
  unfold max2D at P
  split at P
  · obtain ⟨v, w, rfl, r1, r2⟩ := reps2 r
    simp only [Rep] at r1 r2
    subst r1; subst r2
    exact ⟨_, _, rfl, P μ F H (Go.refl _ _ _) s _ (by simp only [Rep])⟩
  · exact False.elim P
theorem fn_min2 : FnL C W (fun xs H Q => ∃ i j, xs = [.int i, .int j] ∧ Q (.int (if j < i then j else i)) H) min2D := fun σ ds vs S μ F H Q s r P => by
  unfold min2D at P
  split at P
  · obtain ⟨v, w, rfl, r1, r2⟩ := reps2 r
    simp only [Rep] at r1 r2
    subst r1; subst r2
    exact ⟨_, _, rfl, P μ F H (Go.refl _ _ _) s _ (by simp only [Rep])⟩
  · exact False.elim P
def absD : List D → M D := fun ds S => match ds with
  | [.int i] => .ok (.int (if i < 0 then -i else i)) S
  | _ => .stuck
theorem fn_abs : FnL C W (fun xs H Q => ∃ i, xs = [.int i] ∧ Q (.int (if i < 0 then -i else i)) H) absD := fun σ ds vs S μ F H Q s r P => by
  unfold absD at P
  split at P
  · obtain ⟨v, rfl, r1⟩ := reps1 r
    simp only [Rep] at r1
    subst r1
    exact ⟨_, rfl, P μ F H (Go.refl _ _ _) s _ (by simp only [Rep])⟩
  · exact False.elim P
def intD1 : List D → M D := fun ds S => match ds with
  | [.int i] => .ok (.int i) S
  | [.bl k] => .ok (.int (if k then 1 else 0)) S
  | _ => .stuck
theorem fn_int1 : FnL C W (fun xs H Q => (∃ i, xs = [.int i] ∧ Q (.int i) H) ∨ ∃ k, xs = [.bl k] ∧ Q (.int (if k then 1 else 0)) H) intD1 := fun σ ds vs S μ F H Q s r P => by
  unfold intD1 at P
  split at P
  · obtain ⟨v, rfl, r1⟩ := reps1 r
    simp only [Rep] at r1
    subst r1
    exact .inl ⟨_, rfl, P μ F H (Go.refl _ _ _) s _ (by simp only [Rep])⟩
  · obtain ⟨v, rfl, r1⟩ := reps1 r
    simp only [Rep] at r1
    subst r1
    exact .inr ⟨_, rfl, P μ F H (Go.refl _ _ _) s _ (by simp only [Rep])⟩
  · exact False.elim P
def tupleD : List D → M D := fun ds S => match ds with
  | [d] => (match seqOf S d with
    | some (_, xs) => .ok (.tup xs) S
    | none => .stuck)
  | _ => .stuck
theorem fn_tuple : FnL C W (fun xs H Q => ∃ p ys, xs = [.ref p] ∧ ((SqL K H p ys ∧ ∀ l, H l = none → Q (.ref l) (upd H l (.tup ys))) ∨ (SqT K H p ys ∧ Q (.ref p) H))) tupleD := fun σ ds vs S μ F H Q s r P => by
  unfold tupleD at P
  split at P
  · obtain ⟨v, rfl, r1⟩ := reps1 r
    split at P
    · rename_i b xs q
      obtain ⟨a, ws, rfl, r3, at1, z⟩ := seq_of s r1 q
      cases b with
      | false => exact ⟨a, ws, rfl, .inl ⟨.inl (at1.lst rfl), fun l hl => new_tup s r3 z P hl⟩⟩
      | true =>
        have e := rep_at_tup s r1 q
        subst e
        exact ⟨a, ws, rfl, .inr ⟨.inl (.inl (at1.tup rfl)), P μ F H (Go.refl _ _ _) s _ r1⟩⟩
    · exact False.elim P
  · exact False.elim P
def listD : List D → M D := fun ds S => match ds with
  | [d] => (match seqOf S d with
    | some (_, xs) => .ok (.lst xs) S
    | none => .stuck)
  | _ => .stuck
/-- list(x), to be written -/
def listO : List D → M D := fun ds S => match ds with
  | [d] => (match seqOf S d with
    | some (_, xs) => .ok (.ref S.length) (S ++ [.lst xs])
    | none => .stuck)
  | _ => .stuck
def rListM (K : PySem.W.Frag) : List V → Hp → VK → Prop := fun xs H Q => ∃ p ys, xs = [.ref p] ∧ (SqL K H p ys ∨ SqT K H p ys) ∧ ∀ l, H l = none → Q (.ref l) (upd H l (.lst ys))
theorem fn_list : FnL C W (rListM K) listD := fun σ ds vs S μ F H Q s r P => by
  unfold listD at P
  split at P
  · obtain ⟨v, rfl, r1⟩ := reps1 r
    split at P
    · rename_i b xs q
      obtain ⟨a, ws, rfl, r3, at1, z⟩ := seq_of s r1 q
      exact ⟨a, ws, rfl, at1.sq, fun l hl => new_lst s r3 z P hl⟩
    · exact False.elim P
  · exact False.elim P
theorem fn_listO : FnL C W (rListM K) listO := fun σ ds vs S μ F H Q s r P => by
  unfold listO at P
  split at P
  · obtain ⟨v, rfl, r1⟩ := reps1 r
    split at P
    · rename_i b xs q
      obtain ⟨a, ws, rfl, r3, at1, z⟩ := seq_of s r1 q
      exact ⟨a, ws, rfl, at1.sq, fun l hl => new_own s r3 z P hl⟩
    · exact False.elim P
  · exact False.elim P
end
end Mir

set_option Elab.async false
set_option maxRecDepth 100000
set_option linter.all false
set_option maxHeartbeats 4000000
namespace Mir
open PySem PySem.Spec PyProof.Rows L2
/-! ### set(xs) of a list of ints: the way of HandS.SetFor's set(t), over a list -/
section
variable {P : Program} {w : World} {A : Around} {E : Value → Shared → Prop} {s : Shared}
/-- the object of a new set -/
abbrev newSet (w : World) : Obj := { cls := .type "set", dict := none, data := .set #[] 0 (.fresh 0 0 (!w.params.followText "set-order")) }
theorem call_set_lstI {l : Addr} {items : Array Value} (ns : List Int) {Q : Value → Shared → Prop} (hh : A.handled = none) (hl : s.heap.IsList l items) (hit : IntsAre items.toList ns) (hb : ns.length + 1 < scanBound)
    (h : ∀ (h' : Heap) (tk c : Nat), SetR w h' s.heap.objs.size (fun j => decide (j ∈ ns)) c → c ≤ ns.length → (∀ b o, s.heap.get? b = some o → h'.get? b = some o) → Q (.ref s.heap.objs.size) { s with heap := h', toks := tk }) : wpAny (model P w) A (call (.type "set") [.ref l]) Q E s := by
  have many : items.size = ns.length := by rw [← IntsAre.length hit, Array.length_toList]
  have ⟨_, _, hmro⟩ := F.called_set.mro
  have hmade := F.called_set.made
  have hsub := F.called_set.sub
  refine wpAny_call (codeAny_of_tree (show wpAny _ _ (callAny (.type "set") _) _ _ _ from wpAny_pure ⟨Code.quiet_builtin _ (by decide +kernel), codeAny_builtin F.entry_type_call ?_⟩))
  rw [Around.under_plain (weight_type_call_type "set" [.ref l] []) rfl]
  have h1 := F.called_set.notType
  have h2 := F.called_set.canCreate
  have hct := F.typeCall_set_1 (.ref l)
  repeat (any_goals (first
    | assumption
    | wp_step))
  refine codeAny_mono (code_set_led1 (.ref l) (E := E) (Q₁ := fun obj s₁ => obj = .ref s.heap.objs.size ∧ s₁ = { s with heap := s.heap.push (newSet w) }) ⟨rfl, rfl⟩) fun r s₁ hr => ?_
  match r, hr with
  | .error e, hr => exact hr
  | .ok .next, hr => exact hr.elim
  | .ok .brk, hr => exact hr.elim
  | .ok .cont, hr => exact hr.elim
  | .ok (.ret obj), hr =>
    obtain ⟨rfl, rfl⟩ := hr
    have hS : (s.heap.push (newSet w)).get? s.heap.objs.size = some (newSet w) := Heap.get?_push_size _ rfl
    have hT : Shared.TypeIs { s with heap := s.heap.push (newSet w) } (.ref s.heap.objs.size) "set" := ⟨_, hS, rfl⟩
    have hli := F.called_set.init.lookup
    have hbi := F.called_set.init.bind (.ref s.heap.objs.size)
    repeat (any_goals (first
      | assumption
      | wp_step))
    refine codeAny_mono (codeAny_call_builtin (R := wants (fun r s₂ => r = .none ∧ ∃ h' tk c, s₂ = { s with heap := h', toks := tk } ∧ SetR w h' s.heap.objs.size (fun j => decide (j ∈ ns)) c ∧ c ≤ ns.length ∧ (∀ b o, s.heap.get? b = some o → h'.get? b = some o)) E) F.called_set.init.plain F.entry_set_init (check_set_init_1 hT ?_)) fun r₂ s₂ hr₂ => ?_
    · obtain ⟨⟨ocls, odict, odata, oslots⟩, hol, hcl, nl, hdl⟩ := hl
      simp only at hcl hdl
      subst hcl; subst hdl
      have hol' : (s.heap.push (newSet w)).get? l = some { cls := .type "list", dict := odict, data := .seq items nl, slots := oslots } := Heap.get?_push_of_some _ hol
      have hsls := F.sub_list_set
      have hslf := F.sub_list_frozenset
      have hne : (Value.type "list" == Value.type "dict") = false := by decide
      have hl1 : (s.heap.push (newSet w)).IsList l items := ⟨_, hol', rfl, nl, rfl⟩
      unfold Builtin.«set.__init__» noKeywords Builtin.Frozenset.updateFrom
      generalize hPI : pyIter = PI
      wp_walk
      subst hPI
      refine wpAny_pyIter_list hl1 (wpAny_bind (wpAny_runValue ?_))
      have below : l < s.heap.objs.size := Heap.lt_size hol
      have hh3 : A.in1.in1.in1.handled = none := by simp [hh]
      have isz : (s.heap.push (newSet w)).objs.size = s.heap.objs.size + 1 := by rw [Heap.size_push]
      have hneI : l ≠ (s.heap.push (newSet w)).objs.size := by
        rw [isz]
        exact Nat.ne_of_lt (Nat.lt_succ_of_lt below)
      have hSf : s.heap.objs.size ∉ [(s.heap.push (newSet w)).objs.size, l] := by
        rw [isz]
        intro m
        rcases List.mem_cons.mp m with e | m
        · exact absurd e (Nat.ne_of_lt (Nat.lt_succ_self _))
        · exact absurd (List.mem_singleton.mp m) (Nat.ne_of_gt below)
      have hval : ∀ (i : Nat) (v : Value), items[i]? = some v → ∃ k t, ns[i]? = some k ∧ v = .int k t := fun i v hv => by
        have hi : i < ns.length := by rw [← many]; exact (Array.getElem?_eq_some_iff.mp hv).1
        obtain ⟨t, e⟩ := PyProof.Rows.IntsAre.int_at hit i v (by rw [Array.getElem?_toList]; exact hv)
        exact ⟨ns[i], t, List.getElem?_eq_getElem hi, by rw [e, List.getD_eq_getElem?_getD, List.getElem?_eq_getElem hi]; rfl⟩
      refine set_update_ints ((Walks.list hh3 _ l hneI items).toS) s.heap.objs.size hSf ns many hb hval (items.size - 0) 0 _ (by omega) (Nat.zero_le _) ⟨⟨_, Heap.get?_push_size _ rfl, rfl, rfl⟩, (hl1.push _)⟩ ⟨0, Nat.le_refl 0, setR_new_at (Heap.get?_push_of_some _ hS)⟩ ?_
      rintro ⟨h', g2, d', tk', os'⟩ c' hm hc' hS'
      obtain rfl : g2 = s.gens := hm.gens
      obtain rfl : d' = s.drawn := hm.drawn
      obtain rfl : os' = s.os := hm.os
      show wpAny _ _ _ _ _ _
      refine wpAny_pure ?_
      show wpAny _ _ (PySem.ret Value.none) _ _ _
      refine wpAny_pure ⟨rfl, h', tk', c', rfl, hS', by rw [← many]; exact hc', fun b o e => ?_⟩
      have hb0 : b < s.heap.objs.size := Heap.lt_size e
      refine hm.heap b o (fun m => ?_) (Heap.get?_push_of_some _ (Heap.get?_push_of_some _ e))
      rcases List.mem_cons.mp m with e | m
      · exact absurd e (Nat.ne_of_lt hb0)
      · have e2 : b = (s.heap.push (newSet w)).objs.size := List.mem_singleton.mp m
        rw [isz] at e2
        exact absurd e2 (Nat.ne_of_lt (Nat.lt_succ_of_lt hb0))
    · match r₂, hr₂ with
      | .error e, hr₂ => exact hr₂
      | .ok .next, hr₂ => exact hr₂.elim
      | .ok .brk, hr₂ => exact hr₂.elim
      | .ok .cont, hr₂ => exact hr₂.elim
      | .ok (.ret r), hr₂ =>
        obtain ⟨rfl, h', tk, c', rfl, hS', hc', hk'⟩ := hr₂
        repeat (any_goals (first
          | assumption
          | wp_step))
        exact h _ _ _ hS' hc' hk'
end
end Mir

set_option Elab.async false
set_option maxRecDepth 100000
set_option linter.all false
set_option maxHeartbeats 4000000
namespace Mir
open PySem PySem.Spec PyProof.Rows L2
/-! ### sorted(d) of a dict whose keys are ints; set(x) of ints; len(set(x)) -/
section
variable {X : Cx}
def rSortedDI : List V → Hp → VK → Prop := fun xs H Q => ∃ (a : Addr) (kvs : List (Key × V)) (ns : List Int), xs = [.ref a] ∧ Rd H a (.dK kvs) ∧ kvs.map (·.1) = ns.map Sum.inl ∧
  ∀ (ys : List Int) (p : Addr), ys.Perm ns → ys.Pairwise (· ≤ ·) → H p = none → Q (.ref p) (upd H p (.lst (ys.map V.int)))
theorem cr_sortedDI (hcalm : X.calm = true) : CallR X (.builtin "sorted") rSortedDI := fun pins s σ H xs us Q I r ⟨a, kvs, ns, ex, hd, hks, q⟩ => by
  subst ex
  rw [Vals.ref1 r]
  obtain ⟨z, lo, vs, rel, dd⟩ := dk_rd I.hok hd
  obtain ⟨ep, hat⟩ := dd.dictAt
  have hkeys : vs.map (·.1) = ns.map Sum.inl := rel.keys.symm.trans hks
  have hl : vs.length = ns.length := by simpa using congrArg List.length hkeys
  have few : vs.length ≤ sizeLine := by
    have e : kvs.length = ns.length := by simpa using congrArg List.length hks
    omega
  refine Calls.call_function_entry PyProof.Rows.kind_sorted PyProof.Rows.plain_sorted PyProof.Rows.entry_sorted (PyProof.Rows.args_sorted1 _) ?_
  unfold Builtin.«sorted»
  refine wpAny_bind (m := checkCount "sorted" 1 1 _) (wpAny_pure (wpAny_bind (PySem.W.kdu_collect (A := X.A.in1) (PySem.W.kdl_dict (knd := mixKind X.prog X.w) (kvs := vs) (ep := ep) lo) (I.ok.hd hcalm) hat few fun h' tk acc hk hacc => ?_)))
  have hal : acc.toList.length = vs.length := by rw [Array.length_toList, hacc.1]
  have hV : Vals (ns.map V.int) acc.toList := by
    have := keys_at hal fun j v e => by
      obtain ⟨k, x, e1, e2⟩ := hacc.2 j v (by rw [← Array.getElem?_toList]; exact e)
      exact ⟨k, x, e1, e2⟩
    have e : (vs.map fun p => kV p.1) = ns.map V.int := by
      have := congrArg (List.map kV) hkeys
      rw [List.map_map, List.map_map] at this
      exact this
    rw [← e]
    exact this
  have hi := hV.ints
  have I1 : Inv X pins σ H { s with heap := h', toks := tk } := I.kept hk
  refine wpAny_bind (wpAny_newList ?_ (by rw [hal]; exact few))
  have hoL : (h'.push (seqObj "list" acc.toList.toArray 0)).get? h'.objs.size = some (seqObj "list" acc.toList.toArray 0) := Heap.get?_push_size _ rfl
  show wpAny _ _ _ _ _ { s with heap := h'.push (seqObj "list" acc.toList.toArray 0), toks := tk }
  refine wpAny_bind (wpAny_holding (wpAny_call_entry PyProof.Rows.slot_list_sort ⟨_, hoL, rfl⟩ PyProof.Rows.entry_list_sort
    (SrtO.list_sort_ord (s := { s with heap := h'.push (seqObj "list" acc.toList.toArray 0), toks := tk }) SrtO.swo_int hoL (by rw [hal]; exact few) (fun h2 => SrtO.ints_sortable hi h2) fun out g1 g2 => ⟨_, rfl, ?_⟩) (PyProof.Rows.args_list_sort _)))
  obtain ⟨k1, k2, k3⟩ := SrtO.ints_out hi g1 g2
  obtain ⟨e', he'⟩ := PyProof.Rows.sortedHeap_at (vs := acc.toList) (out := out.toArray) hoL
  have hlen : ((out.map SrtO.iv).map V.int).length ≤ sizeLine := by rw [List.length_map, k2.length_eq]; omega
  refine wpAny_pure ⟨_, rfl, .ref h'.objs.size, upd H h'.objs.size (.lst ((out.map SrtO.iv).map V.int)), I1.laid (t' := tk) (fun b u e => ?_) (Nat.le_refl _) ⟨hlen, out, e', vals_of_ints k1, he'⟩, rfl, q _ _ k2 k3 (I1.hok.fresh (Nat.le_refl _))⟩
  have hb : b < h'.objs.size := Heap.lt_size e
  rw [PyProof.Rows.sortedHeap_old (Nat.ne_of_lt hb) (by rw [Heap.size_push]; exact Nat.lt_succ_of_lt hb)]
  exact Heap.get?_push_of_some _ e
/-- set(x), x a list or a tuple of ints -/
def rSetI (K : PySem.W.Frag) (w : World) : List V → Hp → VK → Prop := fun xs H Q => ∃ (a : Addr) (ns : List Int), xs = [.ref a] ∧ (SqL K H a (ns.map V.int) ∨ SqT K H a (ns.map V.int)) ∧ ns.length < 4000 ∧
  ∀ (p : Addr) (c : Nat), H p = none → c ≤ ns.length → Q (.ref p) (upd H p (SetO w p (fun j => decide (j ∈ ns)) c))
theorem cr_setI (hcalm : X.calm = true) : CallR X (.type "set") (rSetI X.K X.w) := fun pins s σ H xs us Q I r ⟨a, ns, ex, hs, few, q⟩ => by
  subst ex
  rw [Vals.ref1 r]
  have fin : ∀ (h' : Heap) (tk c : Nat), SetR X.w h' s.heap.objs.size (fun j => decide (j ∈ ns)) c → c ≤ ns.length → (∀ b o, s.heap.get? b = some o → h'.get? b = some o) → EP X pins σ Q (.ref s.heap.objs.size) { s with heap := h', toks := tk } := fun h' tk c hR hc hk =>
    ⟨.ref _, _, I.laid (t' := tk) hk (Nat.le_refl _) (setO_new hR), rfl, q _ c (I.hok.fresh (Nat.le_refl _)) hc⟩
  rcases hs with hs | hs
  · obtain ⟨its, rv, hl, hz⟩ := I.list hs
    exact call_set_lstI ns (I.ok.hd hcalm) hl.isList (by simpa using rv.ints) (by unfold scanBound; omega) fin
  · obtain ⟨its, rv, hl, hz⟩ := I.tuple hs
    exact call_set_tupI ns (I.ok.hd hcalm) hl (by simpa using rv.ints) (by unfold scanBound; omega) fin
/-- len of a set of ints: the number of those that are in it -/
def rLenSet (w : World) : List V → Hp → VK → Prop := fun xs H Q => ∃ (a : Addr) (S : Int → Bool) (n : Nat) (us : List Int), xs = [.ref a] ∧ H a = some (SetO w a S n) ∧ us.Nodup ∧ (∀ k, k ∈ us ↔ S k = true) ∧ n < 4000 ∧ Q (.int us.length) H
theorem cr_lenSet : CallR X (.builtin "len") (rLenSet X.w) := fun pins s σ H xs vs Q I r ⟨a, S, n, us, ex, ha, nd, hm, few, q⟩ => by
  subst ex
  rw [Vals.ref1 r]
  obtain ⟨o, es, ep, t, ho, hex, hd, g, nd2, hm2, hb, hf, hn, hr, hl⟩ := setO_get I ha
  have e : n = us.length := by
    have p : (es.toList.map keyOf).Perm us := (List.perm_ext_iff_of_nodup nd2 nd).mpr fun k => by rw [hm, hm2]
    have := p.length_eq
    rw [List.length_map, Array.length_toList, hn] at this
    exact this
  exact call_len_set ho hex hd hf (by rw [hn]; omega) ⟨.int us.length, H, I.tok _, ⟨_, by rw [hn, e]⟩, q⟩
end
end Mir

set_option Elab.async false
set_option maxRecDepth 100000
set_option linter.all false
set_option maxHeartbeats 4000000
namespace Mir
open PySem PySem.Spec PyProof.Rows L2
open Classical

/-! ### rows of ints in order -/
theorem sorted_unique : ∀ {xs ys : List Int}, xs.Perm ys → xs.Pairwise (· ≤ ·) → ys.Pairwise (· ≤ ·) → xs = ys
  | [], ys, p, _, _ => by rw [List.Perm.eq_nil p.symm]
  | x :: xs, [], p, _, _ => by have := p.length_eq; simp at this
  | x :: xs, y :: ys, p, hx, hy => by
    obtain ⟨hx1, hx2⟩ := List.pairwise_cons.mp hx
    obtain ⟨hy1, hy2⟩ := List.pairwise_cons.mp hy
    have e : x = y := by
      have m1 : x ∈ y :: ys := p.mem_iff.mp (by simp)
      have m2 : y ∈ x :: xs := p.mem_iff.mpr (by simp)
      rcases List.mem_cons.mp m1 with e | m1
      · exact e
      · rcases List.mem_cons.mp m2 with e | m2
        · exact e.symm
        · have := hy1 x m1
          have := hx1 y m2
          omega
    subst e
    rw [sorted_unique (List.Perm.cons_inv p) hx2 hy2]
def sortI (ns : List Int) : List Int := ns.mergeSort fun a b => decide (a ≤ b)
theorem sortI_perm (ns : List Int) : (sortI ns).Perm ns := List.mergeSort_perm _ _
theorem sortI_sorted (ns : List Int) : (sortI ns).Pairwise (· ≤ ·) := by
  have := List.pairwise_mergeSort (le := fun a b : Int => decide (a ≤ b)) (fun a b c h1 h2 => by simp only [decide_eq_true_eq] at *; omega) (fun a b => by simp only [Bool.or_eq_true, decide_eq_true_eq]; omega) ns
  exact this.imp fun h => by simpa using h
theorem sortI_of {ns ys : List Int} (p : ys.Perm ns) (h : ys.Pairwise (· ≤ ·)) : ys = sortI ns := sorted_unique (p.trans (sortI_perm ns).symm) h (sortI_sorted ns)
/-- an int into a row in order, once -/
def insU (x : Int) : List Int → List Int
  | [] => [x]
  | y :: r => if x < y then x :: y :: r else if x = y then y :: r else y :: insU x r
def sortU : List Int → List Int
  | [] => []
  | x :: r => insU x (sortU r)
theorem mem_insU (x k : Int) : ∀ r : List Int, k ∈ insU x r ↔ k = x ∨ k ∈ r
  | [] => by simp [insU]
  | y :: r => by
    unfold insU
    split
    · simp
    · split
      · rename_i e; subst e; simp
      · rw [List.mem_cons, mem_insU x k r, List.mem_cons]
        constructor
        · rintro (h | h | h) <;> simp [h]
        · rintro (h | h | h) <;> simp [h]
theorem mem_sortU (k : Int) : ∀ r : List Int, k ∈ sortU r ↔ k ∈ r
  | [] => by simp [sortU]
  | x :: r => by unfold sortU; rw [mem_insU, mem_sortU k r, List.mem_cons]
theorem insU_lt (x : Int) : ∀ r : List Int, r.Pairwise (· < ·) → (insU x r).Pairwise (· < ·)
  | [], _ => by simp [insU]
  | y :: r, h => by
    obtain ⟨h1, h2⟩ := List.pairwise_cons.mp h
    unfold insU
    split
    · rename_i c
      refine List.pairwise_cons.mpr ⟨fun z hz => ?_, h⟩
      rcases List.mem_cons.mp hz with e | hz
      · omega
      · have := h1 z hz; omega
    · split
      · exact h
      · rename_i c1 c2
        refine List.pairwise_cons.mpr ⟨fun z hz => ?_, insU_lt x r h2⟩
        rcases (mem_insU x z r).mp hz with e | hz
        · omega
        · exact h1 z hz
theorem sortU_lt : ∀ r : List Int, (sortU r).Pairwise (· < ·)
  | [] => List.Pairwise.nil
  | x :: r => insU_lt x _ (sortU_lt r)
theorem nodup_of_lt {xs : List Int} (h : xs.Pairwise (· < ·)) : xs.Nodup := h.imp fun h e => by omega
theorem lt_unique {xs ys : List Int} (hx : xs.Pairwise (· < ·)) (hy : ys.Pairwise (· < ·)) (h : ∀ k, k ∈ xs ↔ k ∈ ys) : xs = ys :=
  sorted_unique ((List.perm_ext_iff_of_nodup (nodup_of_lt hx) (nodup_of_lt hy)).mpr h) (hx.imp fun h => by omega) (hy.imp fun h => by omega)

section
variable {X : Cx} {C : Nat → Addr} {W : WX} {K : PySem.W.Frag}
/-! ### sorted, set, len(set) -/
def sortedI : List D → M D := fun ds S => match ds with
  | [d] => (match seqOf S d with
    | some (false, xs) => (match intsOf xs with
      | some ns => .ok (.lst ((sortI ns).map D.int)) S
      | none => .stuck)
    | _ => .stuck)
  | _ => .stuck
theorem intsOf_length : ∀ {ds : List D} {ns : List Int}, intsOf ds = some ns → ds.length = ns.length
  | [], _, e => by cases e; rfl
  | .int b :: ds, ns, e => by
    simp only [intsOf, Option.map_eq_some_iff] at e
    obtain ⟨cs, e1, rfl⟩ := e
    simp [intsOf_length e1]
  | .non :: _, _, e => by cases e
  | .bl _ :: _, _, e => by cases e
  | .str _ :: _, _, e => by cases e
  | .ty _ :: _, _, e => by cases e
  | .tup _ :: _, _, e => by cases e
  | .lst _ :: _, _, e => by cases e
  | .dic _ _ :: _, _, e => by cases e
  | .ref _ :: _, _, e => by cases e
theorem fn_sortedI : FnL C W (rSortedI K) sortedI := fun σ ds vs S μ F H Q s r P => by
  unfold sortedI at P
  split at P
  · obtain ⟨v, rfl, r1⟩ := reps1 r
    split at P
    · rename_i xs q
      split at P
      · rename_i ns e
        obtain ⟨a, ws, rfl, r3, at1, z⟩ := seq_of s r1 q
        have := ints_rep r3 e
        subst this
        refine ⟨a, ns, rfl, .inl (at1.lst rfl), fun ys p hp hs hn => ?_⟩
        rw [sortI_of hp hs]
        exact new_lst s (rep_ints _) (by rw [List.length_map, (sortI_perm ns).length_eq, ← intsOf_length e]; exact z) P hn
      · exact False.elim P
    · exact False.elim P
  · exact False.elim P
/-- the items of a list, a tuple, all ints -/
def intSeq (S : Store) (d : D) : Option (List Int) := match seqOf S d with
  | some (_, xs) => intsOf xs
  | none => none
theorem int_seq {S : Store} {μ : List Addr} {F H : Hp} (s : Sim S μ F H) {d : D} {v : V} {ns : List Int} (r : Rep μ F d v) (e : intSeq S d = some ns) : ∃ a, v = .ref a ∧ (SqL K H a (ns.map V.int) ∨ SqT K H a (ns.map V.int)) ∧ ns.length ≤ sizeLine := by
  unfold intSeq at e
  split at e
  · rename_i b xs q
    obtain ⟨a, ws, rfl, r3, at1, z⟩ := seq_of s r q
    have := ints_rep r3 e
    subst this
    exact ⟨a, rfl, at1.sq, by rw [← intsOf_length e]; exact z⟩
  · cases e
/-- sorted(set(x)) -/
def sortedSet (d : D) : M D := fun S => match intSeq S d with
  | some ns => if ns.length < 64 then .ok (.lst ((sortU ns).map D.int)) S else .stuck
  | none => .stuck
def lenSet (d : D) : M D := fun S => match intSeq S d with
  | some ns => if ns.length < 4000 then .ok (.int (sortU ns).length) S else .stuck
  | none => .stuck
def mSortedSet (me : Env → M D) : Env → M D := fun env => bnd (me env) sortedSet
def mLenSet (me : Env → M D) : Env → M D := fun env => bnd (me env) lenSet
theorem sortU_length : ∀ r : List Int, (sortU r).length ≤ r.length
  | [] => Nat.le_refl _
  | x :: r => by
    have h : ∀ r : List Int, (insU x r).length ≤ r.length + 1 := fun r => by
      induction r with
      | nil => simp [insU]
      | cons y r ih =>
        unfold insU
        split
        · simp
        · split <;> simp <;> omega
    have := h (sortU r)
    have := sortU_length r
    unfold sortU
    simp
    omega
variable {e : Expr} {me : Env → M D} {te : TE} {p p2 pos pos2 : Pos}
abbrev tSetOf (K : PySem.W.Frag) (w : World) (te : TE) : TE := tCB (rSetI K w) (tCons te tNil)
theorem pe_setOf (hc : X.calm = true) (hg : Gl X "set") (hm : X.mg "set" = none) (he : PE X e te) (hs : starEach [e] X.env = (false, eval e X.env) :: starEach [] X.env := by rfl) (hpl : (backTo pos (starEach [] X.env)).any (·.1) = false := by rfl) : PE X (.Call (.Name "set" p) [e] [] pos) (tSetOf X.K X.w te) :=
  pe_callTy (cr_setI hc) hg hm (by decide +kernel) (pa_cons he pa_nil hs) (by decide) (by decide) hs hpl
theorem pv_sortedSet (hc : X.calm = true) (hg : Gl X "set") (hm : X.mg "set" = none) (hg2 : Gl X "sorted") (hm2 : X.mg "sorted" = none) (he : PV X C W e me te) (hs : starEach [e] X.env = (false, eval e X.env) :: starEach [] X.env := by rfl) (hpl : (backTo pos (starEach [] X.env)).any (·.1) = false := by rfl)
    (hs2 : starEach [.Call (.Name "set" p) [e] [] pos] X.env = (false, eval (.Call (.Name "set" p) [e] [] pos) X.env) :: starEach [] X.env := by rfl) (hpl2 : (backTo pos2 (starEach [] X.env)).any (·.1) = false := by rfl) :
    PV X C W (.Call (.Name "sorted" p2) [.Call (.Name "set" p) [e] [] pos] [] pos2) (mSortedSet me) (tCB (rSortedSet X.w) (tCons (tSetOf X.K X.w te) tNil)) := by
  refine ⟨pe_callB (cr_sortedSet hc) hg2 hm2 (by decide +kernel) (pa_cons (pe_setOf hc hg hm he.pe hs hpl) pa_nil hs2) (by decide) (by decide) hs2 hpl2, fun σ env S μ F H E s Q P => ?_⟩
  show te σ H fun x H1 => rSetI X.K X.w [x] H1 fun y H2 => rSortedSet X.w [y] H2 Q
  refine Snd.bind he.snd E s P fun d v S1 μ1 F1 H1 g1 s1 E1 r1 P1 => ?_
  unfold sortedSet at P1
  split at P1
  · rename_i ns q
    split at P1
    · rename_i hl
      obtain ⟨a, rfl, sq, z⟩ := int_seq (K := X.K) s1 r1 q
      refine ⟨a, ns, rfl, sq, by omega, fun p c hp hc => ⟨p, _, c, rfl, upd_same, by omega, fun us q2 h1 h2 _ hn => ?_⟩⟩
      obtain ⟨s2, g2⟩ := s1.laid (o := SetO X.w p (fun j => decide (j ∈ ns)) c) hp
      have e : us = sortU ns := lt_unique h1 (sortU_lt ns) fun k => by rw [h2, mem_sortU]; simp
      rw [e]
      exact new_lst s2 (rep_ints _) (by rw [List.length_map]; exact Nat.le_trans (sortU_length ns) z) (P1.rebase g2) hn
    · exact False.elim P1
  · exact False.elim P1
theorem pv_lenSet (hc : X.calm = true) (hg : Gl X "set") (hm : X.mg "set" = none) (hg2 : Gl X "len") (hm2 : X.mg "len" = none) (he : PV X C W e me te) (hs : starEach [e] X.env = (false, eval e X.env) :: starEach [] X.env := by rfl) (hpl : (backTo pos (starEach [] X.env)).any (·.1) = false := by rfl)
    (hs2 : starEach [.Call (.Name "set" p) [e] [] pos] X.env = (false, eval (.Call (.Name "set" p) [e] [] pos) X.env) :: starEach [] X.env := by rfl) (hpl2 : (backTo pos2 (starEach [] X.env)).any (·.1) = false := by rfl) :
    PV X C W (.Call (.Name "len" p2) [.Call (.Name "set" p) [e] [] pos] [] pos2) (mLenSet me) (tCB (rLenSet X.w) (tCons (tSetOf X.K X.w te) tNil)) := by
  refine ⟨pe_callB cr_lenSet hg2 hm2 PySem.boot_len (pa_cons (pe_setOf hc hg hm he.pe hs hpl) pa_nil hs2) (by decide) (by decide) hs2 hpl2, fun σ env S μ F H E s Q P => ?_⟩
  show te σ H fun x H1 => rSetI X.K X.w [x] H1 fun y H2 => rLenSet X.w [y] H2 Q
  refine Snd.bind he.snd E s P fun d v S1 μ1 F1 H1 g1 s1 E1 r1 P1 => ?_
  unfold lenSet at P1
  split at P1
  · rename_i ns q
    split at P1
    · rename_i hl
      obtain ⟨a, rfl, sq, z⟩ := int_seq (K := X.K) s1 r1 q
      refine ⟨a, ns, rfl, sq, by omega, fun p c hp hc => ⟨p, _, c, sortU ns, rfl, upd_same, nodup_of_lt (sortU_lt ns), fun k => by rw [mem_sortU]; simp, by omega, ?_⟩⟩
      obtain ⟨s2, g2⟩ := s1.laid (o := SetO X.w p (fun j => decide (j ∈ ns)) c) hp
      exact P1 μ1 _ _ g2 s2 _ (by simp only [Rep])
    · exact False.elim P1
  · exact False.elim P1

/-! ### dicts -/
def keyOfD : D → Option Key
  | .int i => some (.inl i)
  | .str x => some (.inr x)
  | _ => none
def kD : Key → D
  | .inl i => .int i
  | .inr x => .str x
theorem key_rep {μ : List Addr} {F : Hp} {d : D} {v : V} {k : Key} (r : Rep μ F d v) (e : keyOfD d = some k) : v = kV k := by
  cases d <;> first | (cases e; simp only [Rep] at r; exact r) | cases e
theorem rep_key {μ : List Addr} {F : Hp} (k : Key) : Rep μ F (kD k) (kV k) := by cases k <;> simp only [kD, kV, Rep]
def dictOf (S : Store) : D → Option (List Key × List D)
  | .dic ks ds => some (ks, ds)
  | .ref n => match S[n]? with
    | some (.dic ks ds) => some (ks, ds)
    | _ => none
  | _ => none
theorem dict_of {S : Store} {μ : List Addr} {F H : Hp} (s : Sim S μ F H) {d : D} {v : V} {ks : List Key} {ds : List D} (r : Rep μ F d v) (e : dictOf S d = some (ks, ds)) :
    ∃ a vs, v = .ref a ∧ Rd H a (.dK (ks.zip vs)) ∧ ks.length = ds.length ∧ Reps μ F ds vs ∧ ds.length ≤ sizeLine := by
  cases d with
  | dic ks' ds' =>
    cases e
    simp only [Rep] at r
    obtain ⟨a, vs, o, rfl, q, l, z, r⟩ := r
    exact ⟨a, vs, rfl, .inr ⟨o, s.ext _ _ q⟩, l, r, z⟩
  | ref n =>
    simp only [Rep] at r
    obtain ⟨a, rfl, ha⟩ := r
    dsimp only [dictOf] at e
    split at e
    · rename_i ks' ds' q
      cases e
      obtain ⟨vs, z1, z2, z3, z4, z5⟩ := s.obj n _ a q ha
      exact ⟨a, vs, rfl, .inl z1, z2, z3, z5⟩
    · cases e
  | _ => cases e
def hasK (ks : List Key) (k : Key) : Bool := ks.any fun j => decide (j = k)
theorem valV_zip {ks : List Key} {vs : List V} (h : ks.length = vs.length) (k : Key) : (valV (ks.zip vs) k).isSome = hasK ks k := by
  unfold hasK
  rw [← valV_any]
  induction ks generalizing vs with
  | nil => simp
  | cons a ks ih =>
    cases vs with
    | nil => simp at h
    | cons b vs =>
      rw [List.zip_cons_cons, List.any_cons, ih (by simpa using h), List.any_cons]
def inDict : D → D → M D := fun a b S => match keyOfD a, dictOf S b with
  | some k, some (ks, _) => .ok (.bl (hasK ks k)) S
  | _, _ => .stuck
def ninDict : D → D → M D := fun a b S => match keyOfD a, dictOf S b with
  | some k, some (ks, _) => .ok (.bl (!hasK ks k)) S
  | _, _ => .stuck
variable {a b : Expr} {ma mb : Env → M D} {ta tb : TE}
theorem pv_din (hu : X.A.units + 1 < cLine) (ha : PV X C W a ma ta) (hb : PV X C W b mb tb) (h1 : behindInMarks .In b = false := by rfl) : PV X C W (.Compare a [.In] [b] pos) (mOp inDict ma mb) (tDIn ta tb) := by
  refine ⟨pe_cmp (pc_din hu ha.pe hb.pe) h1, fun σ env S μ F H E s Q P => ?_⟩
  show ta σ H fun y H1 => tb σ H1 fun x H2 => ∃ a o, x = .ref a ∧ DGet H2 a y o ∧ Q (.bl o.isSome) H2
  refine Snd.bind ha.snd E s P fun d v S1 μ1 F1 H1 g1 s1 E1 r1 P1 => Snd.bind hb.snd E1 s1 P1 fun d2 v2 S2 μ2 F2 H2 g2 s2 E2 r2 P2 => ?_
  unfold inDict at P2
  split at P2
  · rename_i k ks ds e1 e2
    obtain ⟨c, vs, rfl, hd, l, r3, z⟩ := dict_of s2 r2 e2
    refine ⟨c, _, rfl, .inl ⟨_, k, hd, key_rep (g2.rep r1) e1, rfl⟩, ?_⟩
    rw [valV_zip (by rw [l, r3.length])]
    exact P2 μ2 F2 H2 (Go.refl _ _ _) s2 _ (by simp only [Rep])
  · exact False.elim P2
theorem pv_dnin (hu : X.A.units + 1 < cLine) (ha : PV X C W a ma ta) (hb : PV X C W b mb tb) (h1 : behindInMarks .NotIn b = false := by rfl) : PV X C W (.Compare a [.NotIn] [b] pos) (mOp ninDict ma mb) (tDNotIn ta tb) := by
  refine ⟨pe_cmp (pc_dnotin hu ha.pe hb.pe) h1, fun σ env S μ F H E s Q P => ?_⟩
  show ta σ H fun y H1 => tb σ H1 fun x H2 => ∃ a o, x = .ref a ∧ DGet H2 a y o ∧ Q (.bl (!o.isSome)) H2
  refine Snd.bind ha.snd E s P fun d v S1 μ1 F1 H1 g1 s1 E1 r1 P1 => Snd.bind hb.snd E1 s1 P1 fun d2 v2 S2 μ2 F2 H2 g2 s2 E2 r2 P2 => ?_
  unfold ninDict at P2
  split at P2
  · rename_i k ks ds e1 e2
    obtain ⟨c, vs, rfl, hd, l, r3, z⟩ := dict_of s2 r2 e2
    refine ⟨c, _, rfl, .inl ⟨_, k, hd, key_rep (g2.rep r1) e1, rfl⟩, ?_⟩
    rw [valV_zip (by rw [l, r3.length])]
    exact P2 μ2 F2 H2 (Go.refl _ _ _) s2 _ (by simp only [Rep])
  · exact False.elim P2
/-- the keys of a dict that does not change any more -/
def keysM (d : D) : M Its := fun S => match d with
  | .dic ks _ => .ok (ks.map kD, fun _ => True) S
  | _ => .stuck
def mKeys (me : Env → M D) : Env → M Its := fun env => bnd (me env) keysM
theorem pit_keys {tg : Expr} (he : PV X C W e me te) : PIt X C W tg e (mKeys me) (iKeys te) := by
  refine ⟨pi_keys he.pe, fun σ env S μ F H E s Q P => ?_⟩
  show te σ H fun x H1 => ∃ d o, x = .ref d ∧ ((∃ kvs, H1 d = some (.frz o (.dK kvs)) ∧ Q (Itk d o kvs) H1) ∨ ∃ kvs, H1 d = some (.frz o (.dT kvs)) ∧ Q (Itkt d o kvs) H1)
  refine Snd.bind he.snd E s P fun d v S1 μ1 F1 H1 g1 s1 E1 r1 P1 => ?_
  unfold keysM at P1
  split at P1
  · rename_i ks ds
    simp only [relD, Rep] at r1
    obtain ⟨a, vs, o, rfl, q, l, z, r⟩ := r1
    have hl : (ks.zip vs).length = ks.length := by rw [List.length_zip, ← r.length, l]; omega
    refine ⟨a, o, rfl, .inl ⟨_, s1.ext _ _ q, P1 μ1 F1 H1 (Go.refl _ _ _) s1 _ ⟨by simpa [l] using z, fun S2 μ2 F2 H2 g2 s2 _ => ?_⟩⟩⟩
    have hH : H2 a = some (.frz o (.dK (ks.zip vs))) := s2.ext _ _ (g2.ex _ _ q)
    refine ⟨fun i d hd => ?_, ⟨hH, by rw [hl]; simp⟩⟩
    rw [List.getElem?_map] at hd
    cases hk : ks[i]? with
    | none => rw [hk] at hd; cases hd
    | some k =>
      rw [hk] at hd
      cases hd
      have hi : i < ks.length := (List.getElem?_eq_some_iff.mp hk).1
      refine ⟨⟨hH, by rw [hl]; exact hi⟩, fun x H3 hx => ?_⟩
      obtain ⟨rfl, k', v', hkv, rfl⟩ := hx
      have e : k' = k := by
        have := List.getElem?_zip_eq_some.mp hkv
        rw [hk] at this
        exact (Option.some.inj this.1).symm
      subst e
      exact ⟨F2, Go.refl _ _ _, s2, rep_key _⟩
  · exact False.elim P1
/-- sorted(d), the keys ints -/
def intKeys : List Key → Option (List Int)
  | [] => some []
  | .inl i :: r => (intKeys r).map (i :: ·)
  | .inr _ :: _ => none
theorem intKeys_eq : ∀ {ks : List Key} {ns : List Int}, intKeys ks = some ns → ks = ns.map Sum.inl
  | [], _, e => by cases e; rfl
  | .inl i :: r, ns, e => by
    simp only [intKeys, Option.map_eq_some_iff] at e
    obtain ⟨cs, e1, rfl⟩ := e
    rw [intKeys_eq e1, List.map_cons]
  | .inr _ :: _, _, e => by cases e
def sortedD : List D → M D := fun ds S => match ds with
  | [d] => (match dictOf S d with
    | some (ks, _) => (match intKeys ks with
      | some ns => .ok (.lst ((sortI ns).map D.int)) S
      | none => .stuck)
    | none => .stuck)
  | _ => .stuck
theorem fn_sortedD : FnL C W rSortedDI sortedD := fun σ ds vs S μ F H Q s r P => by
  unfold sortedD at P
  split at P
  · obtain ⟨v, rfl, r1⟩ := reps1 r
    split at P
    · rename_i ks es q
      split at P
      · rename_i ns e
        obtain ⟨a, ws, rfl, hd, l, r3, z⟩ := dict_of s r1 q
        have ek := intKeys_eq e
        have hl : ks.length = ws.length := by rw [l, r3.length]
        refine ⟨a, _, ns, rfl, hd, by rw [List.map_fst_zip (Nat.le_of_eq hl), ek], fun ys p hp hs hn => ?_⟩
        rw [sortI_of hp hs]
        exact new_lst s (rep_ints _) (by rw [List.length_map, (sortI_perm ns).length_eq]; have := congrArg List.length ek; simp at this; omega) P hn
      · exact False.elim P
    · exact False.elim P
  · exact False.elim P
end
end Mir

set_option Elab.async false
set_option maxRecDepth 100000
set_option linter.all false
set_option maxHeartbeats 4000000
namespace Mir
open PySem PySem.Spec PyProof.Rows L2
open Classical

section
variable {X : Cx} {C : Nat → Addr} {W : WX} {K : PySem.W.Frag}
/-! ### what is kept as it is from now on -/
def tKeep (te : TE) : TE := fun σ H Q => te σ H fun v H1 => ∃ d u, v = .ref d ∧ H1 d = some u ∧ Mut (some u) ∧ ∀ od, Q v (upd H1 d (.frz od u))
theorem pe_keep {e : Expr} {te : TE} (h : PE X e te) : PE X e (tKeep te) := ⟨fun pins s σ H Q I hw => thn (h.run pins s σ H _ I hw) fun v s1 ⟨x, H1, I1, r1, d, u, ex, hd, mu, q⟩ => by
  obtain ⟨od, I2⟩ := I1.lock hd mu
  exact ⟨x, _, I2, r1, q od⟩⟩

/-! ### {k: v for ..} -/
def putD (ks : List Key) (ds : List D) (k : Key) (d : D) : List Key × List D :=
  if hasK ks k = true then (ks, List.zipWith (fun j x => if j = k then d else x) ks ds) else (ks ++ [k], ds ++ [d])
theorem putD_length {ks : List Key} {ds : List D} {k : Key} {d : D} (h : ks.length = ds.length) : (putD ks ds k d).1.length = (putD ks ds k d).2.length ∧ (putD ks ds k d).2.length ≤ ds.length + 1 := by
  unfold putD
  split
  · simp [h]
  · simp [h]
theorem zipWith_rep {μ : List Addr} {F : Hp} {k : Key} {d : D} {v : V} (hd : Rep μ F d v) : ∀ {ks : List Key} {ds : List D} {vs : List V}, Reps μ F ds vs → Reps μ F (List.zipWith (fun j x => if j = k then d else x) ks ds) (List.zipWith (fun j x => if j = k then v else x) ks vs)
  | [], ds, vs, r => by simpa using reps_nil
  | a :: ks, [], vs, r => by cases r.nil_inv; simpa using reps_nil
  | a :: ks, x :: ds, vs, r => by
    obtain ⟨y, t, rfl, r1, r2⟩ := r.uncons
    rw [List.zipWith_cons_cons, List.zipWith_cons_cons]
    refine Reps.cons ?_ (zipWith_rep hd r2)
    by_cases e : a = k
    · rw [if_pos e, if_pos e]; exact hd
    · rw [if_neg e, if_neg e]; exact r1
theorem zip_put {k : Key} {v : V} : ∀ {ks : List Key} {vs : List V}, (ks.zip vs).map (fun kv => if kv.1 = k then (kv.1, v) else kv) = ks.zip (List.zipWith (fun j x => if j = k then v else x) ks vs)
  | [], vs => by simp
  | a :: ks, [] => by simp
  | a :: ks, y :: vs => by
    rw [List.zip_cons_cons, List.map_cons, List.zipWith_cons_cons, List.zip_cons_cons, zip_put]
    by_cases e : a = k
    · simp [e]
    · simp [e]
theorem put_rep {μ : List Addr} {F : Hp} {k : Key} {d : D} {v : V} {ks : List Key} {ds : List D} {vs : List V} (hd : Rep μ F d v) (r : Reps μ F ds vs) (l : ks.length = ds.length) :
    ∃ ws, putK (ks.zip vs) k v = (putD ks ds k d).1.zip ws ∧ Reps μ F (putD ks ds k d).2 ws := by
  have hl : ks.length = vs.length := by rw [l, r.length]
  have e : ((ks.zip vs).any fun kv => decide (kv.1 = k)) = hasK ks k := by rw [valV_any, valV_zip hl]
  unfold putK putD
  rw [e]
  by_cases h : hasK ks k = true
  · rw [if_pos h, if_pos h]
    exact ⟨_, zip_put, zipWith_rep hd r⟩
  · rw [if_neg h, if_neg h]
    exact ⟨vs ++ [v], by rw [List.zip_append hl]; rfl, r.append (Reps.cons hd reps_nil)⟩
noncomputable def dcD (g : Store → Prop) (f : D → M (Option (Key × D))) : List D → List Key → List D → M (List Key × List D)
  | [], ks, es => fun S => if g S then .ok (ks, es) S else .stuck
  | d :: r, ks, es => fun S => if g S then (match f d S with
    | .ok none S' => dcD g f r ks es S'
    | .ok (some (k, x)) S' => dcD g f r (putD ks es k x).1 (putD ks es k x).2 S'
    | _ => .stuck) else .stuck
def keyM (d : D) : M Key := opt (keyOfD d)
def ekD (env0 : Env) (f : D → Env → Store → Option Env) (mt : Env → M Bool) (mk me : Env → M D) : D → M (Option (Key × D)) := fun d S => match f d env0 S with
  | some env2 => bnd (mt env2) (fun b => if b = true then bnd (mk env2) (fun k => bnd (me env2) fun a => bnd (keyM k) fun j => ret (some (j, a))) else ret none) S
  | none => .stuck
noncomputable def mDc (own : List Nat) (mi : Env → M Its) (f : D → Env → Store → Option Env) (mt : Env → M Bool) (mk me : Env → M D) : Env → M D := fun env =>
  bnd (mi env) fun p => bnd (dcD p.2 (ekD (wipeE env own) f mt mk me) p.1 [] []) fun q => ret (.dic q.1 q.2)
/-- the same, to be written -/
def resDO : List Key × List D → M D := fun q S => .ok (.ref S.length) (S ++ [.dic q.1 q.2])
noncomputable def mDcO (own : List Nat) (mi : Env → M Its) (f : D → Env → Store → Option Env) (mt : Env → M Bool) (mk me : Env → M D) : Env → M D := fun env =>
  bnd (mi env) fun p => bnd (dcD p.2 (ekD (wipeE env own) f mt mk me) p.1 [] []) resDO
/-- a dict that is made, beside the store, at L -/
theorem dc_core' {wi : TI} {g : TG} {tt : TT} {tk te : TE} {own : List Nat} {mi : Env → M Its} {f : D → Env → Store → Option Env} {is : List Nat} {mt : Env → M Bool} {mk me : Env → M D} {res : List Key × List D → M D} {Q : VK}
    (hi : Snd C W relI wi mi) (hg : SndG g f is) (ht : Snd C W0 relB tt mt) (hk : Snd C W0 relD tk mk) (he : Snd C W0 relD te me) (his : ∀ j ∈ is, j ∈ own)
    {σ : L2.St} {env : Env} {S : Store} {μ : List Addr} {F H : Hp} (E : EnvRep μ F env σ) (s : Sim S μ F H) {k : D → List Addr → Hp → Hp → Prop} (P : Post C W μ F H σ ((bnd (mi env) fun p => bnd (dcD p.2 (ekD (wipeE env own) f mt mk me) p.1 [] []) res) S) k)
    (fin : ∀ ks es vs S' μ' F' H' μ1 F1 H1 L, Go μ F H μ1 F1 H1 → Sim S' μ' F' H' → Go μ1 F1 H1 μ' F' H' → H1 L = none → H' L = some (.dK (ks.zip vs)) → ks.length = es.length → Reps μ' F' es vs → L ∉ μ' → F' L = none → es.length ≤ sizeLine → Post C W μ1 F1 H1 σ (res (ks, es) S') k → Q (.ref L) H') :
    tDc wi g tt tk te own σ H Q := by
  show wi σ H fun J H1 => ∀ L, H1 L = none → ∃ W' : Nat → Nat → Hp → Prop, (∃ m, W' 0 m (upd H1 L (.dK []))) ∧ ∀ i m H, W' i m H →
    (J.stop i H ∧ Q (.ref L) H) ∨ (J.go i H ∧ ∃ Nx : Hp → Prop, (∀ H', Nx H' → ∃ m', m' < m ∧ W' (i + 1) m' H') ∧ ∀ x H', J.yld i H x H' → g x (wipe σ own) H' fun σ2 H2 => wipe σ2 own = wipe σ own ∧ tt σ2 H2 fun b H3 =>
      if b = true then tk σ2 H3 fun y H4 => te σ2 H4 fun z H5 => ∃ kvs k, y = kV k ∧ H5 L = some (.dK kvs) ∧ kvs.length < sizeLine ∧ Nx (upd H5 L (.dK (putK kvs k z))) else Nx H3)
  refine Snd.bind hi E s P fun p J S1 μ1 F1 H1 g1 s1 E1 w1 P1 => ?_
  obtain ⟨ds, gd⟩ := p
  obtain ⟨z, walk⟩ := w1
  have z : ds.length ≤ sizeLine := z
  intro L hL
  generalize hfe : ekD (wipeE env own) f mt mk me = fe at P1
  have f1 : F1 L = none := s1.ext.free hL
  have m1 : L ∉ μ1 := fun m => s1.up L m hL
  let I : Nat → Hp → Prop := fun i H' => ∃ S' μ' F' ks es vs, Sim S' μ' F' H' ∧ Go μ1 F1 H1 μ' F' H' ∧ H' L = some (.dK (ks.zip vs)) ∧ ks.length = es.length ∧ Reps μ' F' es vs ∧ es.length ≤ i ∧ L ∉ μ' ∧ F' L = none ∧
    Post C W μ1 F1 H1 σ (bnd (dcD gd fe (ds.drop i) ks es) res S') k
  refine ⟨fun i m H' => m = ds.length - i ∧ i ≤ ds.length ∧ I i H', ⟨ds.length, by simp, Nat.zero_le _, S1, μ1, F1, [], [], [], s1.aux m1 f1, (Go.refl _ _ _).aux hL, upd_same, rfl, reps_nil, Nat.le_refl _, m1, f1, P1⟩, ?_⟩
  rintro i m H2 ⟨rfl, hi2, S2, μ2, F2, ks, es, vs, s2, g2, hH2, lk, r2, l2, m2, f2, P2⟩
  by_cases hlt : i < ds.length
  · have hd : ds[i]? = some ds[i] := by simp [hlt]
    rw [List.drop_eq_getElem_cons hlt] at P2
    by_cases hg2 : gd S2
    · obtain ⟨w2, _⟩ := walk S2 μ2 F2 H2 g2 s2 hg2
      obtain ⟨w3, w4⟩ := w2 i _ hd
      refine .inr ⟨w3, I (i + 1), fun H' n => ⟨ds.length - (i + 1), by omega, rfl, hlt, n⟩, fun x H3 hx => ?_⟩
      obtain ⟨F3, g3, s3, r3⟩ := w4 x H3 hx
      have P3 : Post C W μ1 F1 H1 σ (bnd (fun S2 => match fe ds[i] S2 with
          | .ok none S' => dcD gd fe (ds.drop (i + 1)) ks es S'
          | .ok (some (k, x)) S' => dcD gd fe (ds.drop (i + 1)) (putD ks es k x).1 (putD ks es k x).2 S'
          | _ => .stuck) res S2) k := by
        unfold bnd at P2 ⊢
        simp only [dcD, if_pos hg2] at P2
        exact P2
      have hq : fe ds[i] S2 = ekD (wipeE env own) f mt mk me ds[i] S2 := by rw [hfe]
      unfold ekD at hq
      cases q : f ds[i] (wipeE env own) S2 with
      | none => rw [q] at hq; simp only [bnd, hq] at P3; exact False.elim P3
      | some env3 =>
        rw [q] at hq
        dsimp only at hq
        refine hg (wipe σ own) (wipeE env own) S2 μ2 F3 H3 x ds[i] env3 (((g2.trans g3).env E1).wipe own) s3 r3 q _ fun σ4 E4 l4 o4 => ⟨?_, ?_⟩
        · exact wipe_eq (by rw [l4, wipe_length]) fun j hj => o4 j fun z => hj (his j z)
        · have hH3 : H3 L = some (.dK (ks.zip vs)) := g3.fr L _ hH2 m2
          refine ht σ4 env3 S2 μ2 F3 H3 E4 s3 _ ?_
          cases q2 : mt env3 S2 with
          | err c S3 => simp only [bnd, q2] at hq; simp only [bnd, hq] at P3; exact P3.elim
          | stuck => simp only [bnd, q2] at hq; simp only [bnd, hq] at P3; exact P3.elim
          | ok b S3 =>
            intro μ4 F4 H4 g4 s4 b' hb'
            cases hb'
            have hH4 : H4 L = some (.dK (ks.zip vs)) := g4.fr L _ hH3 m2
            have m4 : L ∉ μ4 := fun m => by have := g4.fresh L m m2; rw [hH3] at this; cases this
            have f4 : F4 L = none := g4.nf L _ (g3.nf L _ f2 hH2 m2) hH3 m2
            cases b with
            | false =>
              have hq' : fe ds[i] S2 = .ok none S3 := by rw [hq]; simp [bnd, q2, ret]
              rw [if_neg Bool.false_ne_true]
              refine ⟨S3, μ4, F4, ks, es, vs, s4, (g2.trans g3).trans g4, hH4, lk, (g3.trans g4).reps r2, Nat.le_succ_of_le l2, m4, f4, ?_⟩
              simp only [bnd, hq'] at P3
              exact P3
            | true =>
              rw [if_pos rfl]
              refine hk σ4 env3 S3 μ4 F4 H4 (g4.env E4) s4 _ ?_
              cases q3 : mk env3 S3 with
              | err c S5 =>
                have hq' : fe ds[i] S2 = .err c S5 := by rw [hq]; simp [bnd, q2, q3]
                simp only [bnd, hq'] at P3; exact P3.elim
              | stuck =>
                have hq' : fe ds[i] S2 = .stuck := by rw [hq]; simp [bnd, q2, q3]
                simp only [bnd, hq'] at P3; exact P3.elim
              | ok yk S5 =>
                intro μ5 F5 H5 g5 s5 vy hy
                have hH5 : H5 L = some (.dK (ks.zip vs)) := g5.fr L _ hH4 m4
                have m5 : L ∉ μ5 := fun m => by have := g5.fresh L m m4; rw [hH4] at this; cases this
                have f5 : F5 L = none := g5.nf L _ f4 hH4 m4
                refine he σ4 env3 S5 μ5 F5 H5 (g5.env (g4.env E4)) s5 _ ?_
                cases q4 : me env3 S5 with
                | err c S6 =>
                  have hq' : fe ds[i] S2 = .err c S6 := by rw [hq]; simp [bnd, q2, q3, q4]
                  simp only [bnd, hq'] at P3; exact P3.elim
                | stuck =>
                  have hq' : fe ds[i] S2 = .stuck := by rw [hq]; simp [bnd, q2, q3, q4]
                  simp only [bnd, hq'] at P3; exact P3.elim
                | ok y S6 =>
                  cases q5 : keyOfD yk with
                  | none =>
                    have hq' : fe ds[i] S2 = .stuck := by rw [hq]; simp [bnd, q2, q3, q4, keyM, opt, q5]
                    simp only [bnd, hq'] at P3; exact P3.elim
                  | some j =>
                    have hq' : fe ds[i] S2 = .ok (some (j, y)) S6 := by rw [hq]; simp [bnd, q2, q3, q4, keyM, opt, q5, ret]
                    intro μ6 F6 H6 g6 s6 vz hz
                    have hH6 : H6 L = some (.dK (ks.zip vs)) := g6.fr L _ hH5 m5
                    have m6 : L ∉ μ6 := fun m => by have := g6.fresh L m m5; rw [hH5] at this; cases this
                    have f6 : F6 L = none := g6.nf L _ f5 hH5 m5
                    have r6 : Reps μ6 F6 es vs := g6.reps (g5.reps ((g3.trans g4).reps r2))
                    obtain ⟨ws, p1, p2⟩ := put_rep (k := j) hz r6 lk
                    have pl := putD_length (k := j) (d := y) lk
                    refine ⟨ks.zip vs, j, key_rep hy q5, hH6, by rw [List.length_zip, ← r6.length, lk]; omega, S6, μ6, F6, _, _, ws, s6.aux m6 f6, ((((g2.trans g3).trans g4).trans g5).trans g6).aux hL, by rw [upd_same, p1], pl.1, p2, by omega, m6, f6, ?_⟩
                    simp only [bnd, hq'] at P3
                    exact P3
    · exfalso
      unfold bnd at P2
      simp only [dcD, if_neg hg2] at P2
      exact P2
  · have e : i = ds.length := by omega
    subst e
    rw [List.drop_length] at P2
    by_cases hg2 : gd S2
    · refine .inl ⟨(walk S2 μ2 F2 H2 g2 s2 hg2).2, ?_⟩
      unfold bnd at P2
      simp only [dcD, if_pos hg2] at P2
      exact fin ks es vs S2 μ2 F2 H2 μ1 F1 H1 L g1 s2 g2 hL hH2 lk r2 m2 f2 (Nat.le_trans l2 z) P2
    · exfalso
      unfold bnd at P2
      simp only [dcD, if_neg hg2] at P2
      exact P2
variable {kx vx tg iter : Expr} {ifs : List Expr} {scope : Scope} {own : List (Str × Nat)} {pos : Pos} {wi : TI} {g : TG} {tt : TT} {tk te : TE} {mi : Env → M Its} {f : D → Env → Store → Option Env} {is : List Nat} {mt : Env → M Bool} {mk me : Env → M D}
theorem pv_dc (hc : X.calm = true) (hN : X.N.Nodup) (hi : PIt X C W tg iter mi wi) (ok : BlkOk X.N X.env.scope scope own) (his : ∀ j ∈ is, j ∈ own.map (·.2))
    (hg : ∀ q : Bq, PT1 (Cx.b X scope q) tg f is g) (ht : ∀ q : Bq, PTst (Cx.b X scope q) C W0 ifs mt tt) (hk : ∀ q : Bq, PV (Cx.b X scope q) C W0 kx mk tk) (he : ∀ q : Bq, PV (Cx.b X scope q) C W0 vx me te)
    (hs : ∀ x, foldedSetIterable iter X.env x = pure x := by intro _; rfl) : PV X C W (.DictComp kx vx [⟨tg, iter, ifs, 0⟩] scope pos) (mDc (own.map (·.2)) mi f mt mk me) (tKeep (tDc wi g tt tk te (own.map (·.2)))) := by
  have q0 : Bq := ({}, fun _ => none, 0, [], [])
  refine ⟨pe_keep (pe_dc hc hN hi.pi ok (fun s H C cl fp => (hg (s, H, C, cl, fp)).pg) (fun s H C cl fp => (ht (s, H, C, cl, fp)).pts) (fun s H C cl fp => (hk (s, H, C, cl, fp)).pe) (fun s H C cl fp => (he (s, H, C, cl, fp)).pe) hs), fun σ env S μ F H E s Q P => ?_⟩
  refine dc_core' (res := fun q => ret (.dic q.1 q.2)) hi.snd (hg q0).snd (ht q0).snd (hk q0).snd (he q0).snd his E s P fun ks es vs S' μ' F' H' μ1 F1 H1 L g0 s' g' hL hH lk r m' f' z P' => ?_
  refine ⟨L, _, rfl, hH, trivial, fun od => ?_⟩
  have s2 : Sim S' μ' (upd F' L (.frz od (.dK (ks.zip vs)))) (upd H' L (.frz od (.dK (ks.zip vs)))) := (s'.aux m' f').frz m' f' upd_same
  refine P' μ' _ _ ((g'.aux hL).frz hL f') s2 _ ?_
  simp only [relD, Rep]
  exact ⟨L, vs, od, rfl, upd_same, lk, z, Reps.mono (List.prefix_refl _) (Ext.new f') _ _ r⟩
theorem pv_dcO (hc : X.calm = true) (hN : X.N.Nodup) (hi : PIt X C W tg iter mi wi) (ok : BlkOk X.N X.env.scope scope own) (his : ∀ j ∈ is, j ∈ own.map (·.2))
    (hg : ∀ q : Bq, PT1 (Cx.b X scope q) tg f is g) (ht : ∀ q : Bq, PTst (Cx.b X scope q) C W0 ifs mt tt) (hk : ∀ q : Bq, PV (Cx.b X scope q) C W0 kx mk tk) (he : ∀ q : Bq, PV (Cx.b X scope q) C W0 vx me te)
    (hs : ∀ x, foldedSetIterable iter X.env x = pure x := by intro _; rfl) : PV X C W (.DictComp kx vx [⟨tg, iter, ifs, 0⟩] scope pos) (mDcO (own.map (·.2)) mi f mt mk me) (tDc wi g tt tk te (own.map (·.2))) := by
  have q0 : Bq := ({}, fun _ => none, 0, [], [])
  refine ⟨pe_dc hc hN hi.pi ok (fun s H C cl fp => (hg (s, H, C, cl, fp)).pg) (fun s H C cl fp => (ht (s, H, C, cl, fp)).pts) (fun s H C cl fp => (hk (s, H, C, cl, fp)).pe) (fun s H C cl fp => (he (s, H, C, cl, fp)).pe) hs, fun σ env S μ F H E s Q P => ?_⟩
  refine dc_core' (res := resDO) hi.snd (hg q0).snd (ht q0).snd (hk q0).snd (he q0).snd his E s P fun ks es vs S' μ' F' H' μ1 F1 H1 L g0 s' g' hL hH lk r m' f' z P' => ?_
  have s2 := s'.push (ob := .dic ks es) m' (by rw [hH]; intro z; cases z) ⟨vs, hH, lk, Reps.mono (List.prefix_append _ _) (Ext.refl _) _ _ r, f', z⟩
  refine P' (μ' ++ [L]) F' H' ⟨g'.pre.trans (List.prefix_append _ _), g'.ex, g'.fr, fun b hb hn => ?_, g'.nf⟩ s2 _ (rep_ref ?_)
  · rcases List.mem_append.mp hb with hb | hb
    · exact g'.fresh b hb hn
    · simp at hb; subst hb; exact hL
  · rw [← s'.len, List.getElem?_append_right (Nat.le_refl _)]; simp

/-! ### methods of lists -/
def FnMt (C : Nat → Addr) (W : WX) (r : V → List V → Hp → VK → Prop) (g : D → List D → M D) : Prop :=
  ∀ σ o ds v vs S μ F H (Q : VK), Sim S μ F H → Rep μ F o v → Reps μ F ds vs → Post C W μ F H σ (g o ds S) (fun a μ' F' H' => ∀ b, Rep μ' F' a b → Q b H') → r v vs H Q
def mMt (g : D → List D → M D) (mo : Env → M D) (ms : List (Env → M D)) : Env → M D := fun env => bnd (mo env) fun o => bnd (mArgs ms env) fun ds => g o ds
/-- the value is a list of the store -/
def lstAt (S : Store) : D → Option (List D)
  | .ref n => match S[n]? with
    | some (.lst ds) => some ds
    | _ => none
  | _ => none
/-- an object of the store that is a list, first, then the arguments -/
def mMtL (g : D → List D → M D) (mo : Env → M D) (ms : List (Env → M D)) : Env → M D := fun env => bnd (mo env) fun o S => match lstAt S o with
  | some _ => bnd (mArgs ms env) (fun ds => g o ds) S
  | none => .stuck
theorem lst_at {S : Store} {μ : List Addr} {F H : Hp} (s : Sim S μ F H) {d : D} {v : V} {ds : List D} (r : Rep μ F d v) (e : lstAt S d = some ds) :
    ∃ n a vs, d = .ref n ∧ v = .ref a ∧ μ[n]? = some a ∧ S[n]? = some (.lst ds) ∧ H a = some (.lst vs) ∧ Reps μ F ds vs ∧ F a = none ∧ ds.length ≤ sizeLine := by
  cases d with
  | ref n =>
    simp only [Rep] at r
    obtain ⟨a, rfl, ha⟩ := r
    dsimp only [lstAt] at e
    split at e
    · rename_i ds' q
      cases e
      obtain ⟨vs, z1, z2, z3, z4⟩ := s.obj n _ a q ha
      exact ⟨n, a, vs, rfl, rfl, ha, q, z1, z2, z3, z4⟩
    · cases e
  | _ => cases e
variable {o e : Expr} {es : List Expr} {to : TE} {t : TA} {name : Str} {apos cpos : Pos} {id : String} {r : V → List V → Hp → VK → Prop} {gm : D → List D → M D} {mo : Env → M D} {ms : List (Env → M D)}
theorem pv_mtL (slot : Slot "list" name id) (hty : typeOf (.builtin id) = pure (.type "method_descriptor")) (hm : MtR X id r) (hg : FnMt C W r gm) (ho : PV X C W o mo to) (ha : PL X C W (e :: es) ms t)
    (hbase : attributeBase o name X.env (eval o X.env) = eval o X.env := by rfl)
    (hfew : ((backTo cpos (starEach (e :: es) X.env)).all (fun x => !x.1) && (backToKw cpos (keywordEach [] X.env)).all (fun x => x.1.isSome)
      && decide ((e :: es).length + ([] : List Keyword).length + (if ([] : List Keyword).isEmpty then 0 else 1) < 30)) = true := by rfl)
    (hline : (apos.endLine == cpos.line) = true := by rfl) (hs : starEach (e :: es) X.env = (false, eval e X.env) :: starEach es X.env := by rfl) (hplain : (backTo cpos (starEach es X.env)).any (·.1) = false := by rfl) :
    PV X C W (.Call (.Attribute o name apos) (e :: es) [] cpos) (mMtL gm mo ms) (tBM X.K "list" r to t) := by
  refine ⟨pe_bm PySem.F.plainAttrs_list slot hty hm ho.pe ha.pa hbase hfew hline hs hplain, fun σ env S μ F H E s Q P => ?_⟩
  show to σ H fun x H1 => tyV X.K "list" x H1 ∧ t σ H1 fun xs H2 => r x xs H2 Q
  refine Snd.bind ho.snd E s P fun d v S1 μ1 F1 H1 g1 s1 E1 r1 P1 => ?_
  cases q : lstAt S1 d with
  | none => rw [q] at P1; exact False.elim P1
  | some ds =>
    rw [q] at P1
    obtain ⟨n, a, vs, rfl, rfl, hm', hS, hH, r2, hf, z⟩ := lst_at s1 r1 q
    refine ⟨.inl ⟨rfl, vs, SqL.of hH⟩, ?_⟩
    exact Snd.bind ha.snd E1 s1 P1 fun ds2 vs2 S2 μ2 F2 H2 g2 s2 E2 r3 P2 => hg σ _ ds2 _ vs2 S2 μ2 F2 H2 Q s2 (g2.rep r1) r3 P2
noncomputable def appD : D → List D → M D := fun o as S => match o, as with
  | .ref n, [d] => (match S[n]? with
    | some (.lst ds) => if ds.length < sizeLine then .ok .non (S.set n (.lst (ds ++ [d]))) else .stuck
    | _ => .stuck)
  | _, _ => .stuck
theorem fn_app : FnMt C W rAppend appD := fun σ o ds v vs S μ F H Q s r1 r2 P => by
  unfold appD at P
  split at P
  · rename_i n d
    split at P
    · rename_i xs hS
      split at P
      · rename_i hz
        simp only [Rep] at r1
        obtain ⟨a, rfl, ha⟩ := r1
        obtain ⟨y, rfl, r3⟩ := reps1 r2
        obtain ⟨ws, q1, q2, q3, q4⟩ := s.obj n _ a hS ha
        obtain ⟨s2, g2⟩ := s.put (o := .lst (ws ++ [y])) (ob := .lst (xs ++ [d])) ha q3 ⟨_, upd_same, q2.append (Reps.cons r3 reps_nil), q3, by rw [List.length_append]; exact hz⟩
        exact ⟨a, ws, y, rfl, rfl, q1, by rw [← q2.length]; exact hz, P μ F _ g2 s2 _ (by simp only [Rep])⟩
      · exact False.elim P
    · exact False.elim P
  · exact False.elim P
noncomputable def popD : D → List D → M D := fun o as S => match o, as with
  | .ref n, [.int i] => (match S[n]? with
    | some (.lst ds) => (match seqIndex? i ds.length with
      | some k => (match ds[k]? with
        | some d => if -(2 ^ 63) ≤ i ∧ i < 2 ^ 63 then .ok d (S.set n (.lst (ds.eraseIdx k))) else .stuck
        | none => .stuck)
      | none => .stuck)
    | _ => .stuck)
  | _, _ => .stuck
theorem fn_pop : FnMt C W rPopAt popD := fun σ o ds v vs S μ F H Q s r1 r2 P => by
  unfold popD at P
  split at P
  · rename_i n i
    split at P
    · rename_i xs hS
      split at P
      · rename_i k hk
        split at P
        · rename_i d hd
          split at P
          · rename_i hi
            simp only [Rep] at r1
            obtain ⟨a, rfl, ha⟩ := r1
            obtain ⟨y, rfl, r3⟩ := reps1 r2
            simp only [Rep] at r3
            subst r3
            obtain ⟨ws, q1, q2, q3, q4⟩ := s.obj n _ a hS ha
            obtain ⟨w, w1, w2⟩ := q2.get hd
            obtain ⟨s2, g2⟩ := s.put (o := .lst (ws.eraseIdx k)) (ob := .lst (xs.eraseIdx k)) ha q3 ⟨_, upd_same, q2.eraseIdx k, q3, Nat.le_trans (len_erase xs k) q4⟩
            exact ⟨a, ws, i, k, w, rfl, rfl, q1, hi.1, hi.2, by rw [← q2.length]; exact hk, w1, P μ F _ g2 s2 _ w2⟩
          · exact False.elim P
        · exact False.elim P
      · exact False.elim P
    · exact False.elim P
  · exact False.elim P
/-- xs.extend(ys), ys a list that stands alone -/
noncomputable def extD : D → List D → M D := fun o as S => match o, as with
  | .ref n, [.lst zs] => (match S[n]? with
    | some (.lst ds) => if ds.length + zs.length ≤ sizeLine then .ok .non (S.set n (.lst (ds ++ zs))) else .stuck
    | _ => .stuck)
  | _, _ => .stuck
def rExtA : V → List V → Hp → VK → Prop := fun x vs H Q => ∃ l b xs zs, x = .ref l ∧ vs = [.ref b] ∧ H l = some (.lst xs) ∧ Rd H b (.lst zs) ∧ xs.length + zs.length ≤ sizeLine ∧ Q .non (upd H l (.lst (xs ++ zs)))
theorem mt_extA : MtM X "list.extend" rExtA := fun pins s σ H x vs v us Q I rx rv ⟨l, b, xs, zs, ex, ev, hH, hB, hz, q⟩ => by
  subst ex; subst ev
  obtain rfl : v = Value.ref l := rx
  rw [Vals.ref1 rv]
  obtain ⟨z, its, n, r, hl, e⟩ := I.lstM hH
  obtain ⟨z2, jts, m, r2, e2⟩ := hB.ok I.hok
  have hl2 := r2.length
  have room : its.toArray.size + jts.toArray.size ≤ sizeLine := by rw [List.size_toArray, List.size_toArray, ← hl, ← hl2]; exact hz
  have hlong : ¬ (!its.toArray.isEmpty && Builtin.List.listTooLong (its.toArray.size + jts.toArray.size)) = true := by
    rw [notLongL room, Bool.and_false]
    exact Bool.false_ne_true
  refine call_meets F.slot_list_extend ⟨_, e, rfl⟩ F.entry_list_extend (F.args_list_extend_2 _ _) (AutoSeq1.list_extend_list_list_0 l its.toArray n b jts.toArray m hlong (by rw [List.size_toArray]; omega) (by omega)) ⟨e, e2, ?_⟩
  exact ⟨.non, _, I.lset (its' := its ++ jts) hH e (by simp) (r.append r2) (by rw [List.length_append]; exact hz), rfl, q⟩
theorem fn_ext : FnMt C W rExtA extD := fun σ o ds v vs S μ F H Q s r1 r2 P => by
  unfold extD at P
  split at P
  · rename_i n zs
    split at P
    · rename_i xs hS
      split at P
      · rename_i hz
        simp only [Rep] at r1
        obtain ⟨a, rfl, ha⟩ := r1
        obtain ⟨y, rfl, r3⟩ := reps1 r2
        simp only [Rep] at r3
        obtain ⟨b, us, rfl, hb, z, r4⟩ := r3
        obtain ⟨ws, q1, q2, q3, q4⟩ := s.obj n _ a hS ha
        obtain ⟨s2, g2⟩ := s.put (o := .lst (ws ++ us)) (ob := .lst (xs ++ zs)) ha q3 ⟨_, upd_same, q2.append r4, q3, by rw [List.length_append]; exact hz⟩
        exact ⟨a, b, ws, us, rfl, rfl, q1, s.ext.rd hb, by rw [← q2.length, ← r4.length]; exact hz, P μ F _ g2 s2 _ (by simp only [Rep])⟩
      · exact False.elim P
    · exact False.elim P
  · exact False.elim P
end
/-! ### list(range(..)) -/
section
variable {X : Cx} {C : Nat → Addr} {W : WX}
structure PRm (X : Cx) (C : Nat → Addr) (W : WX) (e : Expr) (m : Env → M (Int × Int)) (t : L2.St → Hp → (Int → Int → Hp → Prop) → Prop) : Prop where
  pr : PRg X e t
  snd : Snd C W (fun _ _ _ (p : Int × Int) q => q = p) (fun σ H Q => t σ H fun a b H1 => Q (a, b) H1) m
def mRg1 (ma : Env → M D) : Env → M (Int × Int) := fun env => bnd (ma env) fun d => bnd (intD d) fun i => ret (0, i)
def mRg2 (ma mb : Env → M D) : Env → M (Int × Int) := fun env => bnd (ma env) fun d => bnd (mb env) fun e => bnd (intD d) fun i => bnd (intD e) fun j => ret (i, j)
theorem int_of {d : D} {S : Store} {γ : Type} {f : Int → M γ} {μ : List Addr} {F H : Hp} {σ : L2.St} {k : γ → List Addr → Hp → Hp → Prop} (P : Post C W μ F H σ (bnd (intD d) f S) k) : ∃ i, d = .int i ∧ Post C W μ F H σ (f i S) k := by
  cases d with
  | int i => exact ⟨i, rfl, P⟩
  | _ => exact False.elim P
theorem prm_1 {a : Expr} {ma : Env → M D} {ta : TE} {p pos : Pos} (hg : Gl X "range") (hm : X.mg "range" = none) (ha : PV X C W a ma ta) (na : starEach [a] X.env = (false, eval a X.env) :: starEach [] X.env := by rfl) : PRm X C W (.Call (.Name "range" p) [a] [] pos) (mRg1 ma) (tRg1 ta) := by
  refine ⟨prg_1 hg hm ha.pe na, fun σ env S μ F H E s Q P => ?_⟩
  show ta σ H fun x H1 => ∃ n, x = .int n ∧ Q (0, n) H1
  refine Snd.bind ha.snd E s P fun d v S1 μ1 F1 H1 g1 s1 E1 r1 P1 => ?_
  obtain ⟨i, rfl, P2⟩ := int_of P1
  simp only [relD, Rep] at r1
  exact ⟨i, r1, Post.here P2 s1 _ rfl⟩
theorem prm_2 {a b : Expr} {ma mb : Env → M D} {ta tb : TE} {p pos : Pos} (hg : Gl X "range") (hm : X.mg "range" = none) (ha : PV X C W a ma ta) (hb : PV X C W b mb tb) (na : starEach [a, b] X.env = (false, eval a X.env) :: starEach [b] X.env := by rfl)
    (nb : starEach [b] X.env = (false, eval b X.env) :: starEach [] X.env := by rfl) (np : (backTo pos (starEach [b] X.env)).any (·.1) = false := by rfl) : PRm X C W (.Call (.Name "range" p) [a, b] [] pos) (mRg2 ma mb) (tRg2 ta tb) := by
  refine ⟨prg_2 hg hm ha.pe hb.pe na nb np, fun σ env S μ F H E s Q P => ?_⟩
  show ta σ H fun x H1 => tb σ H1 fun y H2 => ∃ i j, x = .int i ∧ y = .int j ∧ Q (i, j) H2
  refine Snd.bind ha.snd E s P fun d v S1 μ1 F1 H1 g1 s1 E1 r1 P1 => Snd.bind hb.snd E1 s1 P1 fun d2 v2 S2 μ2 F2 H2 g2 s2 E2 r2 P2 => ?_
  obtain ⟨i, rfl, P3⟩ := int_of P2
  obtain ⟨j, rfl, P4⟩ := int_of P3
  simp only [relD, Rep] at r1 r2
  exact ⟨i, j, r1, r2, Post.here P4 s2 _ rfl⟩
theorem rgV_rep {μ : List Addr} {F : Hp} (a b : Int) : Reps μ F (rangeD a (b - a).toNat) (rgV a b) := by
  have : rangeD a (b - a).toNat = ((List.range (b - a).toNat).map fun i => a + ((i : Nat) : Int)).map D.int := by simp [rangeD]
  rw [this]
  have : rgV a b = ((List.range (b - a).toNat).map fun i => a + ((i : Nat) : Int)).map V.int := by simp [rgV]
  rw [this]
  exact rep_ints _
noncomputable def listRg (own : Bool) (p : Int × Int) : M D := fun S => if RgOk p.1 p.2 then (if own then .ok (.ref S.length) (S ++ [.lst (rangeD p.1 (p.2 - p.1).toNat)]) else .ok (.lst (rangeD p.1 (p.2 - p.1).toNat)) S) else .stuck
noncomputable def mListRg (own : Bool) (m : Env → M (Int × Int)) : Env → M D := fun env => bnd (m env) (listRg own)
theorem pv_listRg {own : Bool} {e : Expr} {m : Env → M (Int × Int)} {t : L2.St → Hp → (Int → Int → Hp → Prop) → Prop} {p pos : Pos} (hc : X.calm = true) (hg : Gl X "list") (hm : X.mg "list" = none) (he : PRm X C W e m t) (na : starEach [e] X.env = (false, eval e X.env) :: starEach [] X.env := by rfl) :
    PV X C W (.Call (.Name "list" p) [e] [] pos) (mListRg own m) (tLstRg t) := by
  refine ⟨pe_listRg hc hg hm he.pr na, fun σ env S μ F H E s Q P => ?_⟩
  show t σ H fun a b H1 => RgOk a b ∧ ∀ q, H1 q = none → Q (.ref q) (upd H1 q (.lst (rgV a b)))
  refine Snd.bind (Q := fun p H1 => RgOk p.1 p.2 ∧ ∀ q, H1 q = none → Q (.ref q) (upd H1 q (.lst (rgV p.1 p.2)))) he.snd E s P fun d v S1 μ1 F1 H1 g1 s1 E1 r1 P1 => ?_
  cases r1
  unfold listRg at P1
  split at P1
  · rename_i hc
    have hz : (rangeD d.1 (d.2 - d.1).toNat).length ≤ sizeLine := by
      rw [rangeD_length, sizeLine_eq]
      exact hc.2.2.2.2
    refine ⟨hc, fun q hq => ?_⟩
    cases own with
    | true => exact new_own s1 (rgV_rep _ _) hz P1 hq
    | false => exact new_lst s1 (rgV_rep _ _) hz P1 hq
  · exact False.elim P1
end
end Mir

set_option Elab.async false
set_option maxRecDepth 100000
set_option linter.all false
set_option maxHeartbeats 4000000
namespace Mir
open PySem PySem.Spec PyProof.Rows L2
open Classical

section
variable {X : Cx} {C : Nat → Addr} {W : WX} {K : PySem.W.Frag} {a b c : Expr} {ma mb mc : Env → M D} {ta tb tc : TE} {pos : Pos}
/-! ### more tests -/
theorem pb_isN {j pos'} (ha : PV X C W a ma ta) : PB X C W (.Compare a [.Is] [.Constant .none j pos'] pos) (mTest (mIsN ma)) (tB (tIsN ta)) := ⟨pt_cmp (pc_isN ha.pe), snd_test (pv_isN (j := j) (pos := pos) (pos' := pos') ha).snd⟩
theorem pb_notN {j pos'} (ha : PV X C W a ma ta) : PB X C W (.Compare a [.IsNot] [.Constant .none j pos'] pos) (mTest (mNotN ma)) (tB (tNotN ta)) := ⟨pt_cmp (pc_notN ha.pe), snd_test (pv_notN (j := j) (pos := pos) (pos' := pos') ha).snd⟩
theorem pb_din (hu : X.A.units + 1 < cLine) (ha : PV X C W a ma ta) (hb : PV X C W b mb tb) (h1 : behindInMarks .In b = false := by rfl) : PB X C W (.Compare a [.In] [b] pos) (mTest (mOp inDict ma mb)) (tB (tDIn ta tb)) := ⟨pt_cmp (pc_din hu ha.pe hb.pe) h1, snd_test (pv_din (pos := pos) hu ha hb h1).snd⟩
theorem pb_dnin (hu : X.A.units + 1 < cLine) (ha : PV X C W a ma ta) (hb : PV X C W b mb tb) (h1 : behindInMarks .NotIn b = false := by rfl) : PB X C W (.Compare a [.NotIn] [b] pos) (mTest (mOp ninDict ma mb)) (tB (tDNotIn ta tb)) := ⟨pt_cmp (pc_dnotin hu ha.pe hb.pe) h1, snd_test (pv_dnin (pos := pos) hu ha hb h1).snd⟩
theorem pb_chain {op op' : CmpOp} {r r' : R2} {g g' : D → D → M D} (ho : OpR X (compareOp op) r) (ho' : OpR X (compareOp op') r') (hg : Fn2 C W r g) (hg' : Fn2 C W r' g') (ha : PV X C W a ma ta) (hb : PV X C W b mb tb) (hc : PV X C W c mc tc)
    (hm : lastMarks [op, op'] [b, c] = false := by rfl) : PB X C W (.Compare a [op, op'] [b, c] pos) (mTest (mChain g g' ma mb mc)) (tTest (tChain r r' ta tb tc)) :=
  ⟨pt_chain ho ho' ha.pe hb.pe hc.pe hm, snd_test (snd_chain hg hg' ha.snd hb.snd hc.snd)⟩
/-- a built-in type as a value -/
theorem pv_type {x : Str} {n : String} (hg : Gl X x) (hm : X.mg x = none) (hv : bootBuiltins x = some (.type n)) (hn : x ≠ "__name__" := by decide) (hd : (x == ("__debug__" : Str)) = false := by decide) : PV X C W (.Name x pos) (mK (.ty n)) (tC (.ty n)) :=
  ⟨pe_bltn hg hm hv rfl hn hd, fun σ env S μ F H E s Q P => Post.here P s _ (by simp only [relD, Rep])⟩

/-- {} -/
theorem pv_dic0 : PV X C W (.Dict [] [] pos) (mK (.dic [] [])) (tKeep tDNewK) := ⟨pe_keep pe_dnewK, fun σ env S μ F H E s Q P => by
  show ∀ p, H p = none → _
  intro p hp
  refine ⟨p, _, rfl, upd_same, trivial, fun od => ?_⟩
  have e : upd (upd H p (.dK [])) p (.frz od (.dK [])) = upd H p (.frz od (.dK [])) := by
    funext b
    by_cases h : b = p
    · subst h; rw [upd_same, upd_same]
    · rw [upd_ne h, upd_ne h, upd_ne h]
  rw [e]
  obtain ⟨s1, g1⟩ := s.laid (o := .frz od (.dK [])) hp
  exact P μ _ _ g1 s1 _ (by simp only [relD, Rep]; exact ⟨p, [], od, rfl, upd_same, rfl, Nat.zero_le _, reps_nil⟩)⟩

/-! ### sorted of data of one kind -/
def encD (d : D) : PyData := (pyD d).getD .none
theorem dpAll_zip {H : Hp} : ∀ {vs : List V} {ps : List PyData}, DpAll K H vs ps → vs.length = ps.length
  | _, _, .nil => rfl
  | _, _, .cons _ h => by simp [dpAll_zip h]
/-- sorted(xs): zs are the items with what they are -/
def rSortedG (K : PySem.W.Frag) (A : Around) : List V → Hp → VK → Prop := fun vs H Q => ∃ (a : Addr) (zs : List (V × PyData)), vs = [.ref a] ∧ SqL K H a (zs.map (·.1)) ∧ DpAll K H (zs.map (·.1)) (zs.map (·.2)) ∧ PySem.W.AllAlike (zs.map (·.2)) ∧ PySem.W.Sortable (zs.map (·.2)) ∧ (∀ z ∈ zs, A.units + 2 + z.2.depth < cLine) ∧
  ∀ p, H p = none → Q (.ref p) (upd H p (.lst ((zs.mergeSort (PySem.W.dataLe false (·.2))).map (·.1))))
theorem cr_sortedG : CallR X (.builtin "sorted") (rSortedG X.K X.A) := fun pins s σ H vs us Q I r ⟨a, zs, ex, hs, hd, hal, hk, hu, q⟩ => by
  subst ex
  rw [Vals.ref1 r]
  obtain ⟨its, rv, hl, hz⟩ := I.list hs
  have hz' : zs.length ≤ sizeLine := by simpa using hz
  have each : ∀ {zs : List (V × PyData)} {its : List Value}, Vals (zs.map (·.1)) its → DpAll X.K H (zs.map (·.1)) (zs.map (·.2)) → PySem.W.EachIs (fun (u : Value) (z : V × PyData) => RelV z.1 u ∧ ∃ as, Reads s.heap u z.2 as) its zs := by
    intro zs
    induction zs with
    | nil => intro its rv _; cases rv; exact .nil
    | cons z zs ih =>
      intro its rv hd
      cases rv with
      | cons r1 r2 =>
        cases hd with
        | cons d1 d2 => exact .cons ⟨r1, Dp.reads I _ _ _ d1 r1⟩ (ih r2 d2)
  have e0 := each rv hd
  refine PySem.W.sorted_data (R := fun (u : Value) (z : V × PyData) => RelV z.1 u) (enc := (·.2)) hl.isList (e0.mono fun _ _ h => h.1) (e0.mono fun _ _ h => h.2) hal hk hz' hu fun out ho eo => ?_
  have back : ∀ {zs : List (V × PyData)} {out : List Value}, PySem.W.EachIs (fun (u : Value) (z : V × PyData) => RelV z.1 u) out zs → Vals (zs.map (·.1)) out := by
    intro zs
    induction zs with
    | nil => intro out h; cases h; exact .nil
    | cons z zs ih =>
      intro out h
      cases h with
      | cons h1 h2 => exact .cons h1 (ih h2)
  obtain ⟨ep, he'⟩ := PyProof.Rows.sortedAll_at s.heap its out.toArray
  exact ⟨.ref _, upd H (s.heap.objs.size + 1) (.lst ((zs.mergeSort (PySem.W.dataLe false (·.2))).map (·.1))), I.laid (t' := s.toks) (fun _ _ => PyProof.Rows.sortedAll_old) (Nat.le_succ _) ⟨by simpa using hz', out, ep, back eo, he'⟩, rfl, q _ (I.hok.fresh (Nat.le_succ _))⟩
noncomputable def sortedG : List D → M D := fun ds S => match ds with
  | [d] => (match seqOf S d with
    | some (false, xs) => (match pyDs xs with
      | some ps => if PySem.W.AllAlike ps ∧ PySem.W.Sortable ps ∧ (∀ p ∈ ps, p.depth ≤ 60) then .ok (.lst (xs.mergeSort (PySem.W.dataLe false encD))) S else .stuck
      | none => .stuck)
    | _ => .stuck)
  | _ => .stuck
theorem pyDs_map : ∀ {xs : List D} {ps : List PyData}, pyDs xs = some ps → ps = xs.map encD
  | [], _, e => by simp only [pyDs] at e; cases e; rfl
  | x :: xs, ps, e => by
    simp only [pyDs] at e
    split at e
    · rename_i p q e1 e2
      cases e
      rw [List.map_cons, pyDs_map e2]
      simp [encD, e1]
    · cases e
theorem fn_sortedG {A : Around} (hu : A.units + 64 < cLine) : FnL C W (rSortedG K A) sortedG := fun σ ds vs S μ F H Q s r P => by
  unfold sortedG at P
  split at P
  · obtain ⟨v, rfl, r1⟩ := reps1 r
    split at P
    · rename_i xs q
      split at P
      · rename_i ps e
        split at P
        · rename_i hc
          obtain ⟨a, ws, rfl, r3, at1, z⟩ := seq_of s r1 q
          have hps := pyDs_map e
          have hl := r3.length
          let ts : List (V × D) := ws.zip xs
          have t1 : ts.map (·.1) = ws := List.map_fst_zip (Nat.le_of_eq hl.symm)
          have t2 : ts.map (·.2) = xs := List.map_snd_zip (Nat.le_of_eq hl)
          let zs : List (V × PyData) := ts.map fun t => (t.1, encD t.2)
          have z1 : zs.map (·.1) = ws := by rw [List.map_map]; exact t1
          have z2 : zs.map (·.2) = ps := by
            rw [hps, ← t2, List.map_map, List.map_map]
            rfl
          have ez : (zs.mergeSort (PySem.W.dataLe false (·.2))) = (ts.mergeSort (PySem.W.dataLe false fun t => encD t.2)).map fun t => (t.1, encD t.2) :=
            (List.map_mergeSort (f := fun t : V × D => (t.1, encD t.2)) (fun _ _ _ _ => rfl)).symm
          have ex : xs.mergeSort (PySem.W.dataLe false encD) = (ts.mergeSort (PySem.W.dataLe false fun t => encD t.2)).map (·.2) := by
            have := List.map_mergeSort (r := PySem.W.dataLe false fun t : V × D => encD t.2) (s := PySem.W.dataLe false encD) (f := fun t : V × D => t.2) (l := ts) (fun _ _ _ _ => rfl)
            rw [this, t2]
          have hr : ∀ {l : List (V × D)}, (∀ t ∈ l, t ∈ ts) → Reps μ F (l.map (·.2)) (l.map (·.1)) := by
            intro l
            induction l with
            | nil => intro _; exact reps_nil
            | cons t l ih =>
              intro h
              obtain ⟨i, hi⟩ := List.mem_iff_getElem?.mp (h t (by simp))
              have := List.getElem?_zip_eq_some.mp (show (ws.zip xs)[i]? = some (t.1, t.2) from hi)
              obtain ⟨w, w1, w2⟩ := r3.get this.2
              rw [this.1] at w1
              cases w1
              exact Reps.cons w2 (ih fun u hu => h u (List.mem_cons_of_mem _ hu))
          refine ⟨a, zs, rfl, by rw [z1]; exact .inl (at1.lst rfl), by rw [z1, z2]; exact dps_of s.ext xs ws ps r3 e, by rw [z2]; exact hc.1, by rw [z2]; exact hc.2.1, fun y hy => ?_, fun p hp => ?_⟩
          · have : y.2 ∈ ps := by rw [← z2]; exact List.mem_map.mpr ⟨y, hy, rfl⟩
            have := hc.2.2 _ this
            omega
          · rw [ez, List.map_map]
            rw [ex] at P
            exact new_lst s (hr fun t ht => (List.mergeSort_perm _ _).mem_iff.mp ht) (by rw [List.length_map, List.length_mergeSort]; have := congrArg List.length t2; simp only [List.length_map] at this; omega) P hp
        · exact False.elim P
      · exact False.elim P
    · exact False.elim P
  · exact False.elim P
end

/-! ### the frame of a def -/
section
variable {P : Program} {w : World} {K : PySem.W.Frag} {mg : Str → Option Value} {base : Heap} {N : List Str} {qual : Str} {scope : Scope} {f : Addr} {cdv : Value} {A : Around} {outer : List PySem.Env} {s : Shared} {H : Hp} {E : XK}
theorem tkF : Takes (cxOf (L2.CX P w) P w K mg base N qual scope f cdv A outer s H E) (fun cls d _ H' => E cls d H') := takes_of rfl rfl rfl rfl
theorem psF : PassesOwn (model P w) (A.deeper (envOfC qual scope s.heap.objs.size f cdv)) (envOfC qual scope s.heap.objs.size f cdv) (cxOf (L2.CX P w) P w K mg base N qual scope f cdv A outer s H E).xe := passes_of rfl
end
theorem Room.u65 {k : Nat} {A : Around} (r : Room k A) : A.units + 65 < cLine := by have := r.un; omega
theorem Room.u1 {k : Nat} {A : Around} (r : Room k A) : A.units + 1 < cLine := by have := r.un; omega
/-- where a def of the text stands -/
def DefAt (K : PySem.W.Frag) (mg : Str → Option Value) (x : Str) (st : Stmt) : Prop := ∃ f fd, mg x = some (.ref f) ∧ Fun K x x st f fd
theorem fnM_zero {P : Program} {w : World} {K : PySem.W.Frag} {mg : Str → Option Value} {base : Heap} {C : Nat → Addr} {k : Nat} {x : Str} {f : Addr} {fd : FuncData} {ps : List Str} (hx : mg x = some (.ref f)) (hk : PySem.W.keepIn K (.ref f) = true) (hbi : Binds K fd ps []) :
    FnM P w K mg base C k x ps.length (fun _ => stk) := by
  refine ⟨f, fd, ps, hx, hk, hbi, rfl, fun vs H Q E h => h.1, fun A outer s H args us vs Q E _ _ _ _ h => ?_⟩
  obtain ⟨_, ds, S, μ, F, s0, r, P⟩ := h
  exact P.elim
/-- an own class of errors -/
structure ExAt (K : PySem.W.Frag) (mg : Str → Option Value) (x : Str) (C : Addr) : Prop where
  g : mg x = some (.ref C)
  ex : PySem.W.excIn K C [.type "ValueError", .type "Exception", .type "BaseException", .type "object"] "ValueError.__new__" = true
  kp : PySem.W.keepIn K (.ref C) = true
  sub : PySem.W.subIn K (.ref C) (.type "BaseException") = some true
  ty : PySem.W.typeIn K (.ref C) = some (.type "type")
theorem pm_raiseX {X : Cx} {C : Nat → Addr} {W : WX} {k : Nat} {x m : Str} {j : Nat} {p p2 pos pos' : Pos} (hc : X.calm = true) (tk : Takes X W) (x0 : ExAt X.K X.mg x (C k)) (hg : Gl X x) (hdb : (x == ("__debug__" : Str)) = false := by decide) :
    PM X C W (.Raise (some (.Call (.Name x p) [.Constant (.str m) j p2] [] pos)) none pos') (sRaise k) (fun _ σ H => W (.ref (C k)) none σ H) :=
  pm_raise hc tk (pmk_own PySem.F.excBase_ValueError x0.ex x0.g x0.kp (raises_own x0.sub x0.ty) hg hdb)
end Mir

set_option Elab.async false
set_option maxRecDepth 100000
set_option linter.all false
set_option maxHeartbeats 4000000
namespace Mir
open PySem PySem.Spec PyProof.Rows L2
open Classical

/-! ### [c] + script, the script one of the module's own objects or not -/
section
variable {X : Cx} {C : Nat → Addr} {W : WX}
def rCatK (K : PySem.W.Frag) : R2 := fun x y H Q => ∃ l b xs zs, x = .ref l ∧ y = .ref b ∧ SqL K H l xs ∧ SqL K H b zs ∧ xs.length + zs.length ≤ sizeLine ∧ ∀ p, H p = none → Q (.ref p) (upd H p (.lst (xs ++ zs)))
theorem op_catK : OpR X (binaryOp .Add) (rCatK X.K) := fun pins s σ H x y v u Q I rx ry ⟨l, b, xs, zs, ex, ey, hH, hB, hz, q⟩ => by
  subst ex; subst ey
  obtain rfl : v = Value.ref l := rx
  obtain rfl : u = Value.ref b := ry
  obtain ⟨its, r, ⟨⟨c1, d1, t1, l1⟩, n, g1, hc, hd, ht⟩, z⟩ := I.list hH
  obtain ⟨jts, r', ⟨⟨c2, d2, t2, l2⟩, m, g2, hc2, hd2, ht2⟩, z2⟩ := I.list hB
  simp only at hc hd ht hc2 hd2 ht2
  subst hc hd ht hc2 hd2 ht2
  have hl : its.length + jts.length ≤ sizeLine := by rw [← r.length, ← r'.length]; exact hz
  refine concat_meets ⟨_, g1, rfl⟩ ⟨_, g2, rfl⟩ noFill_list_add seq_list_add PySem.F.slot_list_add PySem.F.entry_list_add (PySem.F.args_list_add_2 _ _) (list_addW l b its.toArray jts.toArray n m none none l1 l2 (by simpa using hl)) ⟨g1, g2, ?_⟩
  rw [List.append_toArray]
  exact ⟨.ref _, _, I.lnew (t' := s.toks) (r.append r') (by rw [List.length_append]; exact hz), rfl, q _ I.fresh⟩

/-- ([c] + script)[:6] -/
def tScr (K : PySem.W.Frag) (c : Int) : TE := tSl (rSlL K) (tOp (rCatK K) (tLst (tCons (tC (.int c)) tNil)) (tVar 0)) tNoPart (tPart (tC (.int 6)))
theorem pe_scr {x : Str} {c : Int} {j k : Nat} {p1 p2 p3 p4 p5 p6 : Pos} (h : PE X (.Name x p3) (tVar 0)) :
    PE X (.Subscript (.BinOp (.List [.Constant (.int c) j p1] p2) .Add (.Name x p3) p4) (.Slice none (some (.Constant (.int 6) k p5)) none p6) pos) (tScr X.K c) :=
  pe_slice sl_list (pe_op op_catK (pe_lst (pa_cons pe_int pa_nil)) h) po_none (po_some pe_int)
def scrV (c : Int) (ns : List Int) : List V := cutV (V.int c :: ns.map V.int) none (some 6)
def cellsD (c : Int) (ns : List Int) : List D := ((c :: ns).take 6).map D.int
theorem scrV_eq (c : Int) (ns : List Int) : scrV c ns = ((c :: ns).take 6).map V.int := by
  unfold scrV cutV
  rw [show (none : Option Int) = none from rfl, HT.sIx_none, List.drop_zero, show (some (6 : Int)) = some ((6 : Nat) : Int) from rfl, HT.sIx_nat, List.map_take, List.map_cons]
  rw [Nat.sub_zero, List.take_eq_take_iff]
  omega
theorem scr_at {K : PySem.W.Frag} {c : Int} {a : Addr} {ns : List Int} {σ : L2.St} {H : Hp} {Q : VK} (e : σ[0]? = some (some (.ref a))) (hS : SqL K H a (ns.map V.int)) (hl : ns.length ≤ 63) (hH : H a ≠ none ∨ True)
    (k : ∀ p H', H p = none → H' p = some (.lst (scrV c ns)) → Q (.ref p) H') : tScr K c σ H Q := by
  show (1 ≤ sizeLine ∧ ∀ p, H p = none → _)
  refine ⟨by decide, fun p hp => ⟨_, e, p, a, [V.int c], ns.map V.int, rfl, rfl, .inl (.inl upd_same), ?_, ?_, fun p2 hp2 => ⟨6, rfl, p2, _, rfl, .inl (.inl upd_same), fun p3 hp3 => ?_⟩⟩⟩
  · rcases hS with h | h
    · exact .inl (by
        rcases h with h | ⟨o, h⟩
        · exact .inl (by rw [upd_ne (ne_of_none h hp)]; exact h)
        · exact .inr ⟨o, by rw [upd_ne (ne_of_none h hp)]; exact h⟩)
    · exact .inr h
  · have : (64 : Nat) ≤ sizeLine := by decide
    simp only [List.length_cons, List.length_nil, List.length_map]
    omega
  · have n2 : p3 ≠ p2 := fun e => by subst e; rw [upd_same] at hp3; cases hp3
    have hp3' : upd H p (.lst [V.int c]) p3 = none := by rw [upd_ne n2] at hp3; exact hp3
    have n1 : p3 ≠ p := fun e => by subst e; rw [upd_same] at hp3'; cases hp3'
    rw [upd_ne n1] at hp3'
    exact k p3 _ hp3' upd_same

/-! ### the law's def: for cell in ([c] + script)[:6]: body; rest -/
structure PLaw (X : Cx) (C : Nat → Addr) (W : WX) (sts : List Stmt) (c : Int) (i : Nat) (mb mr : MS) (ts : TS) : Prop where
  ps : PSs X sts ts
  rd : ∀ (σ : L2.St) (H : Hp) (D : Ends) (a : Addr) (ns : List Int) (d : V → Hp → Prop), σ[0]? = some (some (.ref a)) → SqL X.K H a (ns.map V.int) → ns.length ≤ 63 → (∀ H', D.rt (.bl true) H') →
    (∃ S', sSeq (fun env S => forD (fun S' => True) (gtN i) mb (cellsD c ns) env S) mr (List.replicate σ.length none) [] = .rt (.bl true) S') → ts D σ H
theorem intsD_rep {μ : List Addr} {F : Hp} : ∀ ns : List Int, Reps μ F (ns.map D.int) (ns.map V.int)
  | [] => reps_nil
  | n :: ns => Reps.cons (by simp only [Rep]) (intsD_rep ns)
theorem forD_true {g : Store → Prop} {f : D → Env → Store → Option Env} {mb : MS} (hg : ∀ S, g S) : forD g f mb = forD (fun _ => True) f mb := by
  have : g = fun _ => True := by funext S; exact propext ⟨fun _ => trivial, fun _ => hg S⟩
  rw [this]
theorem plaw {x y : Str} {i : Nat} {c : Int} {j k : Nat} {p1 p2 p3 p4 p5 p6 pos p7 p8 : Pos} {body rest : List Stmt} {tb tr : TS} {mb mr : MS} (hp : PassesOwn (model X.prog X.w) X.A X.env X.xe) (hc : X.calm = true) (h : PE X (.Name x p3) (tVar 0))
    (hg : PT1 X (.Name y p7) (gtN i) [i] (gName i)) (hb : PMs X C W body mb tb) (hr : PMs X C W rest mr tr)
    (hs : ∀ x', foldedSetIterable (.Subscript (.BinOp (.List [.Constant (.int c) j p1] p2) .Add (.Name x p3) p4) (.Slice none (some (.Constant (.int 6) k p5)) none p6) pos) X.env x' = pure x' := by intro _; rfl) :
    PLaw X C W (.For (.Name y p7) (.Subscript (.BinOp (.List [.Constant (.int c) j p1] p2) .Add (.Name x p3) p4) (.Slice none (some (.Constant (.int 6) k p5)) none p6) pos) body [] p8 :: rest) c i mb mr
      (tSeq (tFor (iSeq X.K (tScr X.K c)) (gName i) tb) tr) := by
  refine ⟨pss_cons (ps_for hp hc (pi_seq (pe_scr h)) hg.pg hb.ps hs) hr.ps, fun σ H D a ns d e hS hl hD ⟨S', hm⟩ => ?_⟩
  -- the list that is walked
  let ds := cellsD c ns
  have hds : ds.length ≤ sizeLine := by
    have : (64 : Nat) ≤ sizeLine := by decide
    simp only [ds, cellsD, List.length_map, List.length_take]
    omega
  show tScr X.K c σ H _
  refine scr_at e hS hl (.inr trivial) fun p H1 hp0 hp => ⟨p, rfl, .inl ⟨scrV c ns, .inl (.inl hp), ?_⟩⟩
  let F : Hp := fun b => if b = p then some (.lst (scrV c ns)) else none
  have hF : F p = some (.lst (scrV c ns)) := if_pos rfl
  have sx : Ext F H1 := fun b o hb => by
    by_cases hbp : b = p
    · subst hbp; rw [hF] at hb; cases hb; exact hp
    · have z : F b = none := if_neg hbp
      rw [z] at hb; cases hb
  have s0 : Sim [] [] F H1 := ⟨rfl, List.nodup_nil, sx, fun a h => absurd h (by simp), fun n o a h _ => by cases h⟩
  have E0 : EnvRep [] F (List.replicate σ.length none) σ := ⟨by simp, fun i d h => by
    rw [List.getElem?_replicate] at h
    split at h <;> cases h⟩
  have hR : Rep [] F (.lst ds) (.ref p) := by
    simp only [Rep]
    exact ⟨p, scrV c ns, rfl, .inl hF, hds, by rw [scrV_eq]; exact intsD_rep _⟩
  -- the loop, from a slot that holds the list
  have wk : Walk1 (Itl X.K p) ds (fun S' => seqOf S' (.lst ds) = some (false, ds)) [] F H1 := by
    refine ⟨hds, fun S2 μ2 F2 H2 g2 s2 e2 => ?_⟩
    obtain ⟨a', ws, ea, r3, at2, _⟩ := seq_of s2 (g2.rep hR) e2
    cases ea
    have sq : SqL X.K H2 p ws := .inl (at2.lst rfl)
    refine ⟨fun i d' hd => ?_, ⟨ws, sq, by rw [← r3.length]; exact Nat.le_refl _⟩⟩
    obtain ⟨x, hx, rx⟩ := r3.get hd
    refine ⟨⟨ws, x, sq, hx⟩, fun y H3 hy => ?_⟩
    obtain ⟨rfl, hy⟩ := hy
    have := hy ws sq
    rw [hx] at this; cases this
    exact ⟨F2, Go.refl _ _ _, s2, rx⟩
  have hfr : ∀ S : Store, (fun S' : Store => seqOf S' (.lst ds) = some (false, ds)) S := fun S => rfl
  refine snd_loop hg.snd hb.snd (W := W) (C := C) (env := List.replicate σ.length none) (S1 := []) (gd := fun S' => seqOf S' (.lst ds) = some (false, ds)) s0 E0 wk ?_
  rw [forD_true hfr]
  unfold sSeq at hm
  dsimp only at hm
  cases q : forD (fun _ => True) (gtN i) mb ds (List.replicate σ.length none) [] with
  | nx env1 S1 =>
    rw [show cellsD c ns = ds from rfl, q] at hm
    refine fun σ1 μ1 F1 H2 g1 s1 E1 => hr.snd σ1 env1 S1 μ1 F1 H2 E1 s1 D ?_
    dsimp only at hm
    rw [hm]
    exact fun v μ' F' H' g' s' r' => by simp only [Rep] at r'; rw [r']; exact hD _
  | bk env1 S1 => rw [show cellsD c ns = ds from rfl, q] at hm; cases hm
  | ct env1 S1 => rw [show cellsD c ns = ds from rfl, q] at hm; cases hm
  | err c' env1 S1 => rw [show cellsD c ns = ds from rfl, q] at hm; cases hm
  | stuck => rw [show cellsD c ns = ds from rfl, q] at hm; cases hm
  | rt d' S1 =>
    rw [show cellsD c ns = ds from rfl, q] at hm
    cases hm
    exact fun v μ' F' H' g' s' r' => by simp only [Rep] at r'; rw [r']; exact hD _

def spLaw (K : PySem.W.Frag) : Sp := fun vs H Q _ => ∃ (a : Addr) (ns : List Int), vs = [.ref a] ∧ SqL K H a (ns.map V.int) ∧ ns.length ≤ 63 ∧ ∀ H', Q (.bl true) H'
theorem okLaw {P : Program} {w : World} {K : PySem.W.Frag} {mg : Str → Option Value} {base : Heap} {C : Nat → Addr} {k : Nat} {x qual p : Str} {st : Stmt} {f : Addr} {fd : FuncData} {N : List Str} {c : Int} {i : Nat} {mb mr : MS} (F : Fun K x qual st f fd)
    (S : FnScope N [p] (defScope st)) (hN : 1 ≤ N.length)
    (hbody : ∀ (cdv : Value) (A : Around) (outer : List PySem.Env) (s : Shared) (H : Hp) (E : XK), Room k (A.deeper (envOfC qual (defScope st) s.heap.objs.size f cdv)) →
      ∃ ts, PLaw (cxOf (L2.CX P w) P w K mg base N qual (defScope st) f cdv A outer s H E) C (fun cls d _ H' => E cls d H') (defBody st) c i mb mr ts)
    (hm : ∀ ns : List Int, ∃ S', sSeq (fun env S => forD (fun S' => True) (gtN i) mb (cellsD c ns) env S) mr (List.replicate N.length none) [] = .rt (.bl true) S') : FnOk P w K mg base (L2.CX P w) (k + 1) f fd [p] (spLaw K) := by
  refine F.okX S (fun vs H Q E h => ?_) fun cdv A outer s H vs Q E hr h => ?_
  · obtain ⟨a, ns, rfl, _⟩ := h
    rfl
  · obtain ⟨a, ns, rfl, hS, hl, hQ⟩ := h
    obtain ⟨ts, h1⟩ := hbody cdv A outer s H E hr
    refine ⟨ts, h1.ps, h1.rd (L2.start N [.ref a]) H _ a ns (fun _ _ => True) rfl hS hl (fun H' => hQ H') ?_⟩
    have e : (L2.start N [V.ref a]).length = N.length := by
      unfold L2.start
      simp only [List.length_append, List.length_map, List.length_replicate, List.length_cons, List.length_nil]
      omega
    rw [e]
    exact hm ns
end
end Mir

set_option Elab.async false
set_option maxRecDepth 100000
set_option linter.all false
set_option maxHeartbeats 4000000
namespace Mir
open PySem PySem.Spec PyProof.Rows L2
open Classical

/-! ### mirrors worked out -/
theorem lcD_pure {g : Store → Prop} {f : D → M (Option D)} {S : Store} (hg : g S) (p : D → Option D) : ∀ {ds : List D}, (∀ d ∈ ds, f d S = .ok (p d) S) → lcD g f ds S = .ok (ds.filterMap p) S
  | [], _ => by simp only [lcD, if_pos hg, List.filterMap_nil]
  | d :: ds, h => by
    simp only [lcD, if_pos hg]
    rw [h d List.mem_cons_self]
    dsimp only
    rw [lcD_pure hg p fun e he => h e (List.mem_cons_of_mem _ he)]
    cases q : p d <;> simp [List.filterMap_cons, q]
theorem mLc_pure {own : List Nat} {mi : Env → M Its} {f : D → Env → Store → Option Env} {mt : Env → M Bool} {me : Env → M D} {res : List D → M D} {env : Env} {S : Store} {ds : List D} {g : Store → Prop} (h1 : mi env S = .ok (ds, g) S) (hg : g S) (p : D → Option D)
    (h : ∀ d ∈ ds, elD (wipeE env own) f mt me d S = .ok (p d) S) : mLc own mi f mt me res env S = res (ds.filterMap p) S := by
  unfold mLc
  simp only [bnd, h1]
  rw [lcD_pure hg p h]
theorem mLc_map {own : List Nat} {mi : Env → M Its} {f : D → Env → Store → Option Env} {mt : Env → M Bool} {me : Env → M D} {env : Env} {S : Store} {ds : List D} {g : Store → Prop} (h1 : mi env S = .ok (ds, g) S) (hg : g S) (q : D → D)
    (h : ∀ d ∈ ds, elD (wipeE env own) f mt me d S = .ok (some (q d)) S) : mLc own mi f mt me resF env S = .ok (.lst (ds.map q)) S := by
  rw [mLc_pure h1 hg (fun d => some (q d)) h]
  simp only [resF]
  rw [show ds.filterMap (fun d => some (q d)) = ds.map q from by induction ds with
    | nil => rfl
    | cons d ds ih => simp]
theorem mLc_filter {own : List Nat} {mi : Env → M Its} {f : D → Env → Store → Option Env} {mt : Env → M Bool} {me : Env → M D} {env : Env} {S : Store} {ds : List D} {g : Store → Prop} (h1 : mi env S = .ok (ds, g) S) (hg : g S) (p : D → Option D)
    (h : ∀ d ∈ ds, elD (wipeE env own) f mt me d S = .ok (p d) S) : mLc own mi f mt me resF env S = .ok (.lst (ds.filterMap p)) S := mLc_pure h1 hg p h
theorem boolsOf_map {α : Type} (b : α → Bool) : ∀ xs : List α, boolsOf (xs.map fun x => .bl (b x)) = some (xs.map b)
  | [] => rfl
  | x :: xs => by simp only [List.map_cons, boolsOf, boolsOf_map b xs, Option.map_some]
theorem all_map {α : Type} (b : α → Bool) (xs : List α) (S : Store) : allD [.lst (xs.map fun x => .bl (b x))] S = .ok (.bl (xs.all b)) S := by
  simp only [allD, seqOf, boolsOf_map]
  rw [List.all_map]
  rfl
theorem any_map {α : Type} (b : α → Bool) (xs : List α) (S : Store) : anyD [.lst (xs.map fun x => .bl (b x))] S = .ok (.bl (xs.any b)) S := by
  simp only [anyD, seqOf, boolsOf_map]
  rw [List.any_map]
  rfl
/-! ### what kinds are -/
theorem k_ni : kitB "NoneType" "int" = some false := by decide +kernel
theorem k_bi : kitB "bool" "int" = some true := by decide +kernel
theorem k_ii : kitB "int" "int" = some true := by decide +kernel
theorem k_si : kitB "str" "int" = some false := by decide +kernel
theorem k_ti : kitB "tuple" "int" = some false := by decide +kernel
theorem k_li : kitB "list" "int" = some false := by decide +kernel
theorem k_di : kitB "dict" "int" = some false := by decide +kernel
theorem k_nb : kitB "NoneType" "bool" = some false := by decide +kernel
theorem k_bb : kitB "bool" "bool" = some true := by decide +kernel
theorem k_ib : kitB "int" "bool" = some false := by decide +kernel
theorem k_sb : kitB "str" "bool" = some false := by decide +kernel
theorem k_tb : kitB "tuple" "bool" = some false := by decide +kernel
theorem k_lb : kitB "list" "bool" = some false := by decide +kernel
theorem k_db : kitB "dict" "bool" = some false := by decide +kernel
theorem k_nt : kitB "NoneType" "tuple" = some false := by decide +kernel
theorem k_bt : kitB "bool" "tuple" = some false := by decide +kernel
theorem k_it : kitB "int" "tuple" = some false := by decide +kernel
theorem k_st : kitB "str" "tuple" = some false := by decide +kernel
theorem k_tt : kitB "tuple" "tuple" = some true := by decide +kernel
theorem k_lt : kitB "list" "tuple" = some false := by decide +kernel
theorem k_dt : kitB "dict" "tuple" = some false := by decide +kernel
theorem k_nl : kitB "NoneType" "list" = some false := by decide +kernel
theorem k_bl : kitB "bool" "list" = some false := by decide +kernel
theorem k_il : kitB "int" "list" = some false := by decide +kernel
theorem k_sl : kitB "str" "list" = some false := by decide +kernel
theorem k_tl : kitB "tuple" "list" = some false := by decide +kernel
theorem k_ll : kitB "list" "list" = some true := by decide +kernel
theorem k_dl : kitB "dict" "list" = some false := by decide +kernel
theorem k_ns : kitB "NoneType" "str" = some false := by decide +kernel
theorem k_bs : kitB "bool" "str" = some false := by decide +kernel
theorem k_is : kitB "int" "str" = some false := by decide +kernel
theorem k_ss : kitB "str" "str" = some true := by decide +kernel
theorem k_ts : kitB "tuple" "str" = some false := by decide +kernel
theorem k_ls : kitB "list" "str" = some false := by decide +kernel
theorem k_ds : kitB "dict" "str" = some false := by decide +kernel
/-- neither a type nor an object of the store -/
def Ty : D → Bool
  | .ty _ => false
  | .ref _ => false
  | _ => true
def isInt : D → Bool
  | .int _ => true
  | _ => false
def isBl : D → Bool
  | .bl _ => true
  | _ => false
def isTup : D → Bool
  | .tup _ => true
  | _ => false
def isLst : D → Bool
  | .lst _ => true
  | _ => false
def isStr : D → Bool
  | .str _ => true
  | _ => false
theorem ty_int {v : D} (h : Ty v = true) (S : Store) : isiD [v, .ty "int"] S = .ok (.bl (isInt v || isBl v)) S := by
  cases v <;> first | (cases h; done) | (simp only [isiD, tyName, k_ni, k_bi, k_ii, k_si, k_ti, k_li, k_di, isInt, isBl]; rfl)
theorem ty_bool {v : D} (h : Ty v = true) (S : Store) : isiD [v, .ty "bool"] S = .ok (.bl (isBl v)) S := by
  cases v <;> first | (cases h; done) | (simp only [isiD, tyName, k_nb, k_bb, k_ib, k_sb, k_tb, k_lb, k_db, isInt, isBl]; rfl)
theorem ty_tup {v : D} (h : Ty v = true) (S : Store) : isiD [v, .ty "tuple"] S = .ok (.bl (isTup v)) S := by
  cases v <;> first | (cases h; done) | (simp only [isiD, tyName, k_nt, k_bt, k_it, k_st, k_tt, k_lt, k_dt, isTup]; rfl)
theorem ty_lst {v : D} (h : Ty v = true) (S : Store) : isiD [v, .ty "list"] S = .ok (.bl (isLst v)) S := by
  cases v <;> first | (cases h; done) | (simp only [isiD, tyName, k_nl, k_bl, k_il, k_sl, k_tl, k_ll, k_dl, isLst]; rfl)
theorem ty_str {v : D} (h : Ty v = true) (S : Store) : isiD [v, .ty "str"] S = .ok (.bl (isStr v)) S := by
  cases v <;> first | (cases h; done) | (simp only [isiD, tyName, k_ns, k_bs, k_is, k_ss, k_ts, k_ls, k_ds, isStr]; rfl)
theorem ty_seq {v : D} (h : Ty v = true) (S : Store) : isi2D [v, .tup [.ty "tuple", .ty "list"]] S = .ok (.bl (isTup v || isLst v)) S := by
  cases v <;> first | (cases h; done) | (simp only [isi2D, tyName, k_nt, k_bt, k_it, k_st, k_tt, k_lt, k_dt, k_nl, k_bl, k_il, k_sl, k_tl, k_ll, k_dl, isTup, isLst]; rfl)
/-! ### ints -/
theorem intsOf_map : ∀ ns : List Int, intsOf (ns.map D.int) = some ns
  | [] => rfl
  | n :: ns => by simp only [List.map_cons, intsOf, intsOf_map ns, Option.map_some]
theorem intsOf_eq : ∀ {xs : List D} {ns : List Int}, intsOf xs = some ns → xs = ns.map D.int
  | [], _, e => by cases e; rfl
  | .int b :: xs, ns, e => by
    simp only [intsOf, Option.map_eq_some_iff] at e
    obtain ⟨cs, e1, rfl⟩ := e
    rw [intsOf_eq e1, List.map_cons]
  | .non :: _, _, e => by cases e
  | .bl _ :: _, _, e => by cases e
  | .str _ :: _, _, e => by cases e
  | .ty _ :: _, _, e => by cases e
  | .tup _ :: _, _, e => by cases e
  | .lst _ :: _, _, e => by cases e
  | .dic _ _ :: _, _, e => by cases e
  | .ref _ :: _, _, e => by cases e
theorem intsOf_all : ∀ xs : List D, (intsOf xs).isSome = xs.all isInt
  | [] => rfl
  | .int b :: xs => by simp only [intsOf, Option.isSome_map, List.all_cons, isInt, Bool.true_and]; exact intsOf_all xs
  | .non :: _ => rfl
  | .bl _ :: _ => rfl
  | .str _ :: _ => rfl
  | .ty _ :: _ => rfl
  | .tup _ :: _ => rfl
  | .lst _ :: _ => rfl
  | .dic _ _ :: _ => rfl
  | .ref _ :: _ => rfl
theorem pyDs_ints : ∀ ns : List Int, pyDs (ns.map D.int) = some (ns.map PyData.int)
  | [] => rfl
  | n :: ns => by simp only [List.map_cons, pyDs, pyD, pyDs_ints ns]
theorem eqv_ints : ∀ ns ms : List Int, PyData.eqvAll (ns.map PyData.int) (ms.map PyData.int) = decide (ns = ms)
  | [], [] => rfl
  | [], _ :: _ => rfl
  | _ :: _, [] => rfl
  | n :: ns, m :: ms => by
    simp only [List.map_cons, PyData.eqvAll, PyData.eqv, eqv_ints ns ms, List.cons.injEq]
    by_cases h1 : n = m <;> by_cases h2 : ns = ms
    · subst h1 h2; simp
    · simp only [h2, and_false, decide_false, Bool.and_false]
    · simp only [h1, false_and, decide_false]
      rw [show (n == m) = false from beq_eq_false_iff_ne.mpr h1, Bool.false_and]
    · simp only [h1, false_and, decide_false]
      rw [show (n == m) = false from beq_eq_false_iff_ne.mpr h1, Bool.false_and]
theorem layAll_ints : ∀ ns : List Int, PyData.canLayAll0 (ns.map PyData.int) = true
  | [] => rfl
  | n :: ns => by simp only [List.map_cons, PyData.canLayAll0, PyData.canLay0, layAll_ints ns]; rfl
theorem eq_int (i j : Int) (S : Store) : eqD (.int i) (.int j) S = .ok (.bl (decide (i = j))) S := by
  have h : eqOk (.int i) (.int j) := ⟨rfl, rfl, by simp [PyData.depth]⟩
  simp only [eqD, pyOf, pyD, if_pos h, PyData.eqv]
  congr 2
theorem ne_int (i j : Int) (S : Store) : neD (.int i) (.int j) S = .ok (.bl (!decide (i = j))) S := by
  have h : eqOk (.int i) (.int j) := ⟨rfl, rfl, by simp [PyData.depth]⟩
  simp only [neD, pyOf, pyD, if_pos h, PyData.eqv]
  congr 2
theorem eq_bl (i j : Bool) (S : Store) : eqD (.bl i) (.bl j) S = .ok (.bl (i == j)) S := by
  have h : eqOk (.bool i) (.bool j) := ⟨rfl, rfl, by simp [PyData.depth]⟩
  simp only [eqD, pyOf, pyD, if_pos h, PyData.eqv]
theorem ne_bl (i j : Bool) (S : Store) : neD (.bl i) (.bl j) S = .ok (.bl (!(i == j))) S := by
  have h : eqOk (.bool i) (.bool j) := ⟨rfl, rfl, by simp [PyData.depth]⟩
  simp only [neD, pyOf, pyD, if_pos h, PyData.eqv]
theorem abs_int (i : Int) (S : Store) : absD [.int i] S = .ok (.int (if i < 0 then -i else i)) S := rfl
theorem inF_int (i : Int) (ns : List Int) : inF (.int i) (ns.map D.int) = decide (i ∈ ns) := by
  simp only [inF, List.any_map]
  induction ns with
  | nil => rfl
  | cons n ns ih =>
    rw [List.any_cons, ih]
    show ((n == i) || decide (i ∈ ns)) = decide (i ∈ n :: ns)
    by_cases h1 : n = i
    · subst h1; simp
    · rw [show (n == i) = false from beq_eq_false_iff_ne.mpr h1, Bool.false_or]
      exact decide_eq_decide.mpr ⟨fun h => List.mem_cons_of_mem _ h, fun h => (List.mem_cons.mp h).resolve_left fun e => h1 e.symm⟩
theorem flat_ints (ns : List Int) : (ns.map D.int).all flatD = true := by
  rw [List.all_map]
  induction ns with
  | nil => rfl
  | cons n ns ih => simp only [List.all_cons, ih, Function.comp, flatD, Bool.and_self]
theorem in_tup (i : Int) (ns : List Int) (S : Store) : inD (.int i) (.tup (ns.map D.int)) S = .ok (.bl (decide (i ∈ ns))) S := by
  simp only [inD, seqOf, if_pos (show flatD (.int i) = true ∧ (ns.map D.int).all flatD = true from ⟨rfl, flat_ints ns⟩), inF_int]
theorem in_lst (i : Int) (ns : List Int) (S : Store) : inD (.int i) (.lst (ns.map D.int)) S = .ok (.bl (decide (i ∈ ns))) S := by
  simp only [inD, seqOf, if_pos (show flatD (.int i) = true ∧ (ns.map D.int).all flatD = true from ⟨rfl, flat_ints ns⟩), inF_int]
theorem sortU_self {ns : List Int} (h : ns.Pairwise (· < ·)) : sortU ns = ns := lt_unique (sortU_lt _) h fun k => mem_sortU k ns
theorem sortU_len_iff (ns : List Int) : (sortU ns).length = ns.length ↔ ns.Nodup := by
  constructor
  · intro h
    induction ns with
    | nil => exact List.nodup_nil
    | cons n ns ih =>
      have hl : ∀ x (r : List Int), (insU x r).length ≤ r.length + 1 := by
        intro x r
        induction r with
        | nil => simp [insU]
        | cons y r ih => unfold insU; split; · simp
                         split <;> simp; omega
      have h0 : (insU n (sortU ns)).length = ns.length + 1 := h
      have h1 := hl n (sortU ns)
      have h2 := sortU_length ns
      have h3 : (sortU ns).length = ns.length := by omega
      refine List.nodup_cons.mpr ⟨fun hn => ?_, ih h3⟩
      have : ∀ (r : List Int), r.Pairwise (· < ·) → n ∈ r → insU n r = r := fun r hp hm => lt_unique (insU_lt n r hp) hp fun k => by rw [mem_insU]; exact ⟨fun z => z.elim (fun e => e ▸ hm) id, .inr⟩
      rw [this _ (sortU_lt ns) ((mem_sortU n ns).mpr hn)] at h0
      omega
  · intro h
    have p : (sortU ns).Perm ns := (List.perm_ext_iff_of_nodup (nodup_of_lt (sortU_lt ns)) h).mpr fun k => mem_sortU k ns
    exact p.length_eq
theorem exm_mk {K : PySem.W.Frag} {a b : Addr} {r : Bool} (h1 : PySem.W.subIn K (.ref b) (.type "BaseException") = some true) (h2 : PySem.W.isClsIn K b = true) (h3 : PySem.W.typeIn K (.ref b) = some (.type "type")) (h4 : PySem.W.subIn K (.ref a) (.ref b) = some r) : PySem.W.exmOne K (.ref a) (.ref b) = some r := by
  have e1 : (PySem.W.subIn K (.ref b) (.type "BaseException") == some true) = true := by rw [h1]; rfl
  have e2 : ((PySem.W.clsIn K b).isSome && PySem.W.typeIn K (.ref b) == some (.type "type")) = true := by
    have h2' : (PySem.W.clsIn K b).isSome = true := h2
    rw [h2', h3]; rfl
  show (if (PySem.W.subIn K (.ref b) (.type "BaseException") == some true) = true then (if ((PySem.W.clsIn K b).isSome && PySem.W.typeIn K (.ref b) == some (.type "type")) = true then PySem.W.subIn K (.ref a) (.ref b) else none) else none) = some r
  rw [if_pos e1, if_pos e2]
  exact h4

/-! ### the combinators, wholly applied -/
section
variable {α β : Type} {m n : MS} {mc mA mB : Env → M Bool} {ma mb mc' me : Env → M D} {ms : List (Env → M D)} {env : Env} {S : Store} {g g' : D → D → M D} {d e : D} {i j : Nat}
theorem e_fnRun {k : Nat} {ds : List D} : fnRun k m ds S = (match m (ds.map some ++ List.replicate (k - ds.length) none) S with
  | .rt d S' => .ok d S'
  | .nx _ S' => .ok .non S'
  | .err c _ S' => .err c S'
  | _ => .stuck) := rfl
theorem e_bnd {x : M α} {f : α → M β} : bnd x f S = (match x S with
  | .ok a S' => f a S'
  | .err c S' => .err c S'
  | .stuck => .stuck) := by unfold bnd; cases x S <;> rfl
theorem e_bndS {x : M α} {f : α → Store → RS} : bndS x env f S = (match x S with
  | .ok a S' => f a S'
  | .err c S' => .err c env S'
  | .stuck => .stuck) := rfl
theorem e_seq : sSeq m n env S = (match m env S with
  | .nx env' S' => n env' S'
  | .rt d S' => .rt d S'
  | .bk e S' => .bk e S'
  | .ct e S' => .ct e S'
  | .err c e S' => .err c e S'
  | .stuck => .stuck) := by unfold sSeq; cases m env S <;> rfl
theorem e_if : sIf mc m n env S = bndS (mc env) env (fun b S => if b = true then m env S else n env S) S := rfl
theorem e_ret : sRet me env S = bndS (me env) env (fun d S => .rt d S) S := rfl
theorem e_retN : sRetN env S = .rt .non S := rfl
theorem e_set : sSet i me env S = bndS (me env) env (fun d S => .nx (env.set i (some d)) S) S := rfl
theorem e_expr : sExpr me env S = bndS (me env) env (fun _ S => .nx env S) S := rfl
theorem e_raise {c : Nat} : sRaise c env S = .err c env S := rfl
theorem e_nil : sNil env S = .nx env S := rfl
theorem e_par : sPar i j ms env S = bndS (mArgs ms env) env (fun ds S => match ds with
  | [x, y] => .nx ((env.set i (some x)).set j (some y)) S
  | _ => .stuck) S := rfl
theorem e_asg {f : D → Env → Store → Option Env} : sAsg f me env S = bndS (me env) env (fun d S => match f d env S with
  | some env' => .nx env' S
  | none => .stuck) S := rfl
theorem e_for {mi : Env → M Its} {f : D → Env → Store → Option Env} : sFor mi f m env S = bndS (mi env) env (fun p => forD p.2 f m p.1 env) S := rfl
theorem e_sub {mo mi : Env → M D} {t : D → D → D → Store → Option Store} : sSub mo mi me t env S = bndS (me env) env (fun d => bndS (mo env) env fun o => bndS (mi env) env fun i S => match t o i d S with
  | some S' => .nx env S'
  | none => .stuck) S := rfl
theorem e_args0 : mArgs [] env S = .ok [] S := rfl
theorem e_args1 : mArgs (ma :: ms) env S = bnd (ma env) (fun a => bnd (mArgs ms env) fun r => Mir.ret (a :: r)) S := rfl
theorem e_rt {a : α} : Mir.ret a S = .ok a S := rfl
theorem e_some {a : α} : opt (some a) S = .ok a S := rfl
theorem e_var : mVar i env S = opt (env[i]?.join) S := rfl
theorem e_k : mK d env S = .ok d S := rfl
theorem e_call {f : List D → M D} : mCall f ms env S = bnd (mArgs ms env) f S := rfl
theorem e_un {f : D → M D} : mUn f ma env S = bnd (ma env) f S := rfl
theorem e_op : mOp g ma mb env S = bnd (ma env) (fun x => bnd (mb env) fun y => g x y) S := rfl
theorem e_test : mTest ma env S = bnd (ma env) boolD S := rfl
theorem e_boolD {b : Bool} : boolD (.bl b) S = .ok b S := rfl
theorem e_bAnd : bAnd mA mB env S = bnd (mA env) (fun x => if x = true then mB env else Mir.ret false) S := rfl
theorem e_bOr : bOr mA mB env S = bnd (mA env) (fun x => if x = true then Mir.ret true else mB env) S := rfl
theorem e_bNot : bNot mA env S = bnd (mA env) (fun x => Mir.ret (!x)) S := rfl
theorem e_mAnd : mAnd ma mb env S = bnd (mTest ma env) (fun x => if x = true then mb env else Mir.ret (.bl false)) S := rfl
theorem e_mOr : mOr ma mb env S = bnd (mTest ma env) (fun x => if x = true then Mir.ret (.bl true) else mb env) S := rfl
theorem e_mNot : mNot ma env S = bnd (mTest ma env) (fun x => Mir.ret (.bl (!x))) S := rfl
theorem e_mIf : mIf mA ma mb env S = bnd (mA env) (fun x => if x = true then ma env else mb env) S := rfl
theorem e_chain : mChain g g' ma mb mc' env S = bnd (ma env) (fun x => bnd (mb env) fun y => bnd (g x y) fun z => bnd (boolD z) fun k => if k = true then bnd (mc' env) fun u => g' y u else Mir.ret (.bl false)) S := rfl
theorem e_tup : mTup ms env S = bnd (mArgs ms env) (fun ds => Mir.ret (.tup ds)) S := rfl
theorem e_lst : mLst ms env S = bnd (mArgs ms env) (fun ds => Mir.ret (.lst ds)) S := rfl
theorem e_own : mOwn ms env S = bnd (mArgs ms env) (fun ds S => .ok (.ref S.length) (S ++ [.lst ds])) S := rfl
theorem e_isN : mIsN ma env S = bnd (ma env) (fun a => Mir.ret (.bl a.isNon)) S := rfl
theorem e_notN : mNotN ma env S = bnd (ma env) (fun a => Mir.ret (.bl (!a.isNon))) S := rfl
theorem e_part : mPart ma env S = bnd (ma env) (fun d => bnd (intD d) fun i => Mir.ret (some i)) S := rfl
theorem e_noPart : mNoPart env S = .ok none S := rfl
theorem e_intD {k : Int} : intD (.int k) S = .ok k S := rfl
theorem e_sl {f : D → Option Int → Option Int → M D} {ml mh : Env → M (Option Int)} : mSl f ma ml mh env S = bnd (ma env) (fun x => bnd (ml env) fun l => bnd (mh env) fun h => f x l h) S := rfl
theorem e_seqM : mSeq me env S = bnd (me env) seqM S := rfl
theorem e_its {f : List D → M Its} : mIts f ms env S = bnd (mArgs ms env) f S := rfl
theorem e_tupM {ds : List D} : seqM (.tup ds) S = .ok (ds, fun S' => seqOf S' (.tup ds) = some (true, ds)) S := rfl
theorem e_lstM {ds : List D} : seqM (.lst ds) S = .ok (ds, fun S' => seqOf S' (.lst ds) = some (false, ds)) S := rfl
theorem e_yes : bYes env S = .ok true S := rfl
theorem e_el {f : D → Env → Store → Option Env} : elD env f mc me d S = (match f d env S with
  | some env2 => bnd (mc env2) (fun b => if b = true then bnd (me env2) (fun a => Mir.ret (some a)) else Mir.ret none) S
  | none => .stuck) := rfl
theorem e_gtN : gtN i d env S = some (env.set i (some d)) := rfl
theorem e_gtNil {ds : List D} : gtNil [] env S = some env := rfl
theorem e_gtCons {f : D → Env → Store → Option Env} {h : List D → Env → Store → Option Env} {ds : List D} : gtCons f h (d :: ds) env S = (match f d env S with
  | some env' => h ds env' S
  | none => none) := rfl
theorem e_gtTup {f : List D → Env → Store → Option Env} {ds : List D} : gtTup i f (.tup ds) env S = if ds.length = i then f ds env S else none := rfl
theorem e_addI {a b : Int} : addD (.int a) (.int b) S = .ok (.int (a + b)) S := rfl
theorem e_subI {a b : Int} : subD (.int a) (.int b) S = .ok (.int (a - b)) S := rfl
theorem e_ltI {a b : Int} : ltD (.int a) (.int b) S = .ok (.bl (decide (a < b))) S := rfl
theorem e_leI {a b : Int} : leD (.int a) (.int b) S = .ok (.bl (decide (a ≤ b))) S := rfl
theorem e_gtI {a b : Int} : gtD (.int a) (.int b) S = .ok (.bl (decide (b < a))) S := rfl
theorem e_geI {a b : Int} : geD (.int a) (.int b) S = .ok (.bl (decide (b ≤ a))) S := rfl
theorem e_negI {a : Int} : negD (.int a) S = .ok (.int (-a)) S := rfl
theorem e_lenT {ds : List D} : lenD [.tup ds] S = .ok (.int ds.length) S := rfl
theorem e_lenL {ds : List D} : lenD [.lst ds] S = .ok (.int ds.length) S := rfl
theorem e_tupT {ds : List D} : tupleD [.tup ds] S = .ok (.tup ds) S := rfl
theorem e_tupL {ds : List D} : tupleD [.lst ds] S = .ok (.tup ds) S := rfl
theorem e_lstT {ds : List D} : listD [.tup ds] S = .ok (.lst ds) S := rfl
theorem e_slT {ds : List D} {lo hi : Option Int} : slD (.tup ds) lo hi S = .ok (.tup (cutD ds lo hi)) S := rfl
theorem e_slL {ds : List D} {lo hi : Option Int} : slD (.lst ds) lo hi S = .ok (.lst (cutD ds lo hi)) S := rfl
theorem e_addT {ds es : List D} (h : ds.length + es.length ≤ sizeLine) : addD (.tup ds) (.tup es) S = .ok (.tup (ds ++ es)) S := by
  simp only [addD, seqOf, if_pos h]
theorem e_addL {ds es : List D} (h : ds.length + es.length ≤ sizeLine) : addD (.lst ds) (.lst es) S = .ok (.lst (ds ++ es)) S := by
  simp only [addD, seqOf, if_pos h]
theorem e_ixT {ds : List D} {k : Nat} (h : ds[k]? = some d) : ixD (.tup ds) (.int (k : Int)) S = .ok d S := by
  have hk : k < ds.length := (List.getElem?_eq_some_iff.mp h).1
  have a1 : L2.atI ds (k : Int) = some d := by
    unfold L2.atI L2.ixN
    simp [hk, ← h]
  simp only [ixD, seqOf, a1]
theorem e_ixL {ds : List D} {k : Nat} (h : ds[k]? = some d) : ixD (.lst ds) (.int (k : Int)) S = .ok d S := by
  have hk : k < ds.length := (List.getElem?_eq_some_iff.mp h).1
  have a1 : L2.atI ds (k : Int) = some d := by
    unfold L2.atI L2.ixN
    simp [hk, ← h]
  simp only [ixD, seqOf, a1]
end
theorem mLc_ints {own : List Nat} {mi : Env → M Its} {f : D → Env → Store → Option Env} {mt : Env → M Bool} {me : Env → M D} {env : Env} {S : Store} {ns : List Int} {g : Store → Prop} (h1 : mi env S = .ok (ns.map D.int, g) S) (hg : g S) (q : Int → D)
    (h : ∀ k ∈ ns, elD (wipeE env own) f mt me (.int k) S = .ok (some (q k)) S) : mLc own mi f mt me resF env S = .ok (.lst (ns.map q)) S := by
  rw [mLc_map h1 hg (fun d => match d with | .int k => q k | _ => .non) fun d hd => by
    obtain ⟨k, hk, rfl⟩ := List.mem_map.mp hd
    exact h k hk]
  rw [List.map_map]
  rfl
theorem mLc_intsF {own : List Nat} {mi : Env → M Its} {f : D → Env → Store → Option Env} {mt : Env → M Bool} {me : Env → M D} {env : Env} {S : Store} {ns : List Int} {g : Store → Prop} (h1 : mi env S = .ok (ns.map D.int, g) S) (hg : g S) (q : Int → Option D)
    (h : ∀ k ∈ ns, elD (wipeE env own) f mt me (.int k) S = .ok (q k) S) : mLc own mi f mt me resF env S = .ok (.lst (ns.filterMap q)) S := by
  rw [mLc_filter h1 hg (fun d => match d with | .int k => q k | _ => none) fun d hd => by
    obtain ⟨k, hk, rfl⟩ := List.mem_map.mp hd
    exact h k hk]
  rw [List.filterMap_map]
  rfl
theorem mLc_range {own : List Nat} {mi : Env → M Its} {f : D → Env → Store → Option Env} {mt : Env → M Bool} {me : Env → M D} {env : Env} {S : Store} {n : Nat} {g : Store → Prop} (h1 : mi env S = .ok (rangeD 0 n, g) S) (hg : g S) (q : Nat → D)
    (h : ∀ k, k < n → elD (wipeE env own) f mt me (.int k) S = .ok (some (q k)) S) : mLc own mi f mt me resF env S = .ok (.lst ((List.range n).map q)) S := by
  have e : rangeD 0 n = ((List.range n).map fun i : Nat => (i : Int)).map D.int := by
    unfold rangeD
    rw [List.map_map]
    refine List.map_congr_left fun i _ => ?_
    simp
  rw [e] at h1
  rw [mLc_ints h1 hg (fun k => q k.toNat) fun k hk => by
    obtain ⟨i, hi, rfl⟩ := List.mem_map.mp hk
    exact h i (List.mem_range.mp hi)]
  rw [List.map_map]
  rfl
theorem mLcT_map {own : List Nat} {m0 : Env → M D} {f : D → Env → Store → Option Env} {mt : Env → M Bool} {me : Env → M D} {env : Env} {S : Store} {ds : List D} (h1 : m0 env S = .ok (.tup ds) S) (q : D → D)
    (h : ∀ d ∈ ds, elD (wipeE env own) f mt me d S = .ok (some (q d)) S) : mLc own (mSeq m0) f mt me resF env S = .ok (.lst (ds.map q)) S :=
  mLc_map (g := fun S' => seqOf S' (.tup ds) = some (true, ds)) (by rw [e_seqM, e_bnd, h1]; rfl) rfl q h
theorem mLcT_ints {own : List Nat} {m0 : Env → M D} {f : D → Env → Store → Option Env} {mt : Env → M Bool} {me : Env → M D} {env : Env} {S : Store} {ns : List Int} (h1 : m0 env S = .ok (.tup (ns.map D.int)) S) (q : Int → D)
    (h : ∀ k ∈ ns, elD (wipeE env own) f mt me (.int k) S = .ok (some (q k)) S) : mLc own (mSeq m0) f mt me resF env S = .ok (.lst (ns.map q)) S :=
  mLc_ints (g := fun S' => seqOf S' (.tup (ns.map D.int)) = some (true, (ns.map D.int))) (by rw [e_seqM, e_bnd, h1]; rfl) rfl q h
theorem mLcT_intsF {own : List Nat} {m0 : Env → M D} {f : D → Env → Store → Option Env} {mt : Env → M Bool} {me : Env → M D} {env : Env} {S : Store} {ns : List Int} (h1 : m0 env S = .ok (.tup (ns.map D.int)) S) (q : Int → Option D)
    (h : ∀ k ∈ ns, elD (wipeE env own) f mt me (.int k) S = .ok (q k) S) : mLc own (mSeq m0) f mt me resF env S = .ok (.lst (ns.filterMap q)) S :=
  mLc_intsF (g := fun S' => seqOf S' (.tup (ns.map D.int)) = some (true, (ns.map D.int))) (by rw [e_seqM, e_bnd, h1]; rfl) rfl q h
theorem mLcT_filter {own : List Nat} {m0 : Env → M D} {f : D → Env → Store → Option Env} {mt : Env → M Bool} {me : Env → M D} {env : Env} {S : Store} {ds : List D} (h1 : m0 env S = .ok (.tup ds) S) (q : D → Option D)
    (h : ∀ d ∈ ds, elD (wipeE env own) f mt me d S = .ok (q d) S) : mLc own (mSeq m0) f mt me resF env S = .ok (.lst (ds.filterMap q)) S :=
  mLc_filter (g := fun S' => seqOf S' (.tup ds) = some (true, ds)) (by rw [e_seqM, e_bnd, h1]; rfl) rfl q h
theorem mLcL_map {own : List Nat} {m0 : Env → M D} {f : D → Env → Store → Option Env} {mt : Env → M Bool} {me : Env → M D} {env : Env} {S : Store} {ds : List D} (h1 : m0 env S = .ok (.lst ds) S) (q : D → D)
    (h : ∀ d ∈ ds, elD (wipeE env own) f mt me d S = .ok (some (q d)) S) : mLc own (mSeq m0) f mt me resF env S = .ok (.lst (ds.map q)) S :=
  mLc_map (g := fun S' => seqOf S' (.lst ds) = some (false, ds)) (by rw [e_seqM, e_bnd, h1]; rfl) rfl q h
theorem mLcL_ints {own : List Nat} {m0 : Env → M D} {f : D → Env → Store → Option Env} {mt : Env → M Bool} {me : Env → M D} {env : Env} {S : Store} {ns : List Int} (h1 : m0 env S = .ok (.lst (ns.map D.int)) S) (q : Int → D)
    (h : ∀ k ∈ ns, elD (wipeE env own) f mt me (.int k) S = .ok (some (q k)) S) : mLc own (mSeq m0) f mt me resF env S = .ok (.lst (ns.map q)) S :=
  mLc_ints (g := fun S' => seqOf S' (.lst (ns.map D.int)) = some (false, (ns.map D.int))) (by rw [e_seqM, e_bnd, h1]; rfl) rfl q h
theorem mLcL_intsF {own : List Nat} {m0 : Env → M D} {f : D → Env → Store → Option Env} {mt : Env → M Bool} {me : Env → M D} {env : Env} {S : Store} {ns : List Int} (h1 : m0 env S = .ok (.lst (ns.map D.int)) S) (q : Int → Option D)
    (h : ∀ k ∈ ns, elD (wipeE env own) f mt me (.int k) S = .ok (q k) S) : mLc own (mSeq m0) f mt me resF env S = .ok (.lst (ns.filterMap q)) S :=
  mLc_intsF (g := fun S' => seqOf S' (.lst (ns.map D.int)) = some (false, (ns.map D.int))) (by rw [e_seqM, e_bnd, h1]; rfl) rfl q h
theorem mLcL_filter {own : List Nat} {m0 : Env → M D} {f : D → Env → Store → Option Env} {mt : Env → M Bool} {me : Env → M D} {env : Env} {S : Store} {ds : List D} (h1 : m0 env S = .ok (.lst ds) S) (q : D → Option D)
    (h : ∀ d ∈ ds, elD (wipeE env own) f mt me d S = .ok (q d) S) : mLc own (mSeq m0) f mt me resF env S = .ok (.lst (ds.filterMap q)) S :=
  mLc_filter (g := fun S' => seqOf S' (.lst ds) = some (false, ds)) (by rw [e_seqM, e_bnd, h1]; rfl) rfl q h
theorem dep_intsA : ∀ ms : List Int, PyData.depthAll (ms.map PyData.int) ≤ 1
  | [] => by simp [PyData.depthAll]
  | m :: ms => by
    have := dep_intsA ms
    simp only [List.map_cons, PyData.depthAll, PyData.depth]
    omega
theorem dep_ints (ms : List Int) : PyData.depth (.list (ms.map PyData.int)) ≤ 2 := by
  have := dep_intsA ms
  simp only [PyData.depth]
  omega
theorem dep_intsT (ms : List Int) : PyData.depth (.tuple (ms.map PyData.int)) ≤ 2 := by
  have := dep_intsA ms
  simp only [PyData.depth]
  omega
theorem eq_lstI (ns ms : List Int) (S : Store) : eqD (.lst (ns.map .int)) (.lst (ms.map .int)) S = .ok (.bl (decide (ns = ms))) S := by
  have hk : eqOk (.list (ns.map PyData.int)) (.list (ms.map PyData.int)) := by
    refine ⟨?_, ?_, ?_⟩
    · simp only [PyData.canLay0, layAll_ints]
    · simp only [PyData.canLay0, layAll_ints]
    · have := dep_ints ns
      omega
  simp only [eqD, pyOf, pyD, pyDs_ints, Option.map_some, if_pos hk, PyData.eqv, eqv_ints]
theorem eq_tupI (ns ms : List Int) (S : Store) : eqD (.tup (ns.map .int)) (.tup (ms.map .int)) S = .ok (.bl (decide (ns = ms))) S := by
  have hk : eqOk (.tuple (ns.map PyData.int)) (.tuple (ms.map PyData.int)) := by
    refine ⟨?_, ?_, ?_⟩
    · simp only [PyData.canLay0, layAll_ints]
    · simp only [PyData.canLay0, layAll_ints]
    · have := dep_intsT ns
      omega
  simp only [eqD, pyOf, pyD, pyDs_ints, Option.map_some, if_pos hk, PyData.eqv, eqv_ints]
section
variable {a b c : D} {l : List D} {S : Store}
theorem e_ix0 : ixD (.tup (a :: l)) (.int 0) S = .ok a S := e_ixT (k := 0) rfl
theorem e_ix1 : ixD (.tup (a :: b :: l)) (.int 1) S = .ok b S := e_ixT (k := 1) rfl
theorem e_ix2 : ixD (.tup (a :: b :: c :: l)) (.int 2) S = .ok c S := e_ixT (k := 2) rfl
theorem e_il0 : ixD (.lst (a :: l)) (.int 0) S = .ok a S := e_ixL (k := 0) rfl
theorem e_il1 : ixD (.lst (a :: b :: l)) (.int 1) S = .ok b S := e_ixL (k := 1) rfl
theorem e_il2 : ixD (.lst (a :: b :: c :: l)) (.int 2) S = .ok c S := e_ixL (k := 2) rfl
theorem e_try {n : Nat} {m : MS} {hs : List (Nat × MS)} {env : Env} : sTry n m hs env S = (match m env S with
  | .err c env' S' => if c < n then pick hs c env' S' else .stuck
  | .nx e S' => .nx e S'
  | .rt d S' => .rt d S'
  | .bk e S' => .bk e S'
  | .ct e S' => .ct e S'
  | .stuck => .stuck) := by unfold sTry; cases m env S <;> rfl
theorem e_pick {k c : Nat} {m : MS} {r : List (Nat × MS)} {env : Env} : pick ((k, m) :: r) c env S = if c = k then m env S else pick r c env S := rfl
theorem e_quiet {m : MS} {env : Env} : sQuiet m env S = (match m env S with
  | .err _ _ _ => .stuck
  | .nx e S' => .nx e S'
  | .rt d S' => .rt d S'
  | .bk e S' => .bk e S'
  | .ct e S' => .ct e S'
  | .stuck => .stuck) := by unfold sQuiet; cases m env S <;> rfl
end
theorem eq_str (x y : PySem.Str) (hx : PyData.canLay0 (.str x) = true) (hy : PyData.canLay0 (.str y) = true) (S : Store) : eqD (.str x) (.str y) S = .ok (.bl (x == y)) S := by
  have h : eqOk (.str x) (.str y) := ⟨hx, hy, by simp [PyData.depth]⟩
  simp only [eqD, pyOf, pyD, if_pos h, PyData.eqv]
theorem sl_small : (1000 : Nat) ≤ sizeLine := by decide
end Mir

set_option Elab.async false
set_option maxRecDepth 100000
set_option linter.all false
set_option maxHeartbeats 4000000
namespace Mir
open PySem PySem.Spec PyProof.Rows L2
open Classical

/-! ### d.update(e) -/
section
variable {X : Cx} {C : Nat → Addr} {W : WX} {K : PySem.W.Frag}
def mergeK (kvs more : List (Key × V)) : List (Key × V) := more.foldl (fun acc kv => putK acc kv.1 kv.2) kvs
theorem putK_len (kvs : List (Key × V)) (k : Key) (v : V) : (putK kvs k v).length ≤ kvs.length + 1 := by
  unfold putK
  split <;> simp
theorem mergeK_len : ∀ (more kvs : List (Key × V)), (mergeK kvs more).length ≤ kvs.length + more.length
  | [], kvs => by simp [mergeK]
  | kv :: more, kvs => by
    have h1 := mergeK_len more (putK kvs kv.1 kv.2)
    have h2 := putK_len kvs kv.1 kv.2
    show (mergeK (putK kvs kv.1 kv.2) more).length ≤ _
    rw [List.length_cons]
    omega
theorem kv_merge {more : List (Key × V)} {ms : List (Key × Value)} (r : KV more ms) : ∀ {kvs : List (Key × V)} {vs : List (Key × Value)}, KV kvs vs → KV (mergeK kvs more) (merged vs ms) := by
  unfold KV at r
  induction r with
  | nil => intro kvs vs h; exact h
  | @cons p q ps qs hq t ih =>
    intro kvs vs h
    have h1 : KV (putK kvs p.1 p.2) (stored vs q.1 q.2) := by
      rw [← hq.1]
      exact h.put p.1 hq.2
    exact ih h1
def rUpd : V → List V → Hp → VK → Prop := fun x vs H Q => ∃ d o kvs more, x = .ref d ∧ vs = [.ref o] ∧ H d = some (.dK kvs) ∧ Rd H o (.dK more) ∧ d ≠ o ∧ kvs.length + more.length ≤ sizeLine ∧ Q .non (upd H d (.dK (mergeK kvs more)))
theorem mt_upd : MtR X "dict.update" rUpd := fun pins s σ H x vs v us Q I rx rv ⟨d, o, kvs, more, ex, ev, hd, ho, hne, hz, q⟩ => by
  subst ex; subst ev
  obtain rfl : v = Value.ref d := rx
  rw [Vals.ref1 rv]
  obtain ⟨z1, s1, ws, r1, d1⟩ := dk_of I.hok hd
  obtain ⟨z2, s2, ms, r2, d2⟩ := dk_rd I.hok ho
  have l1 := r1.length
  have l2 := r2.length
  refine call_meetsIn PySem.F.slot_dict_update d1.typeIs PySem.F.entry_dict_update (PySem.F.args_dict_update_2 _ _) (meets_dict_update (mixKind X.prog X.w) d o hne s2) ⟨ws, ms, d1, d2, by rw [← l1, ← l2]; exact hz, fun h' e1 _ e3 => ?_⟩
  have he : ∃ q, h'.get? d = some q := let ⟨q, _, _, hq, _⟩ := e1; ⟨q, hq⟩
  have I2 := d_write (t' := s.toks) (ob := .dK (mergeK kvs more)) I (by rw [hd]; exact True.intro) e3 he (dk_new (by have := mergeK_len more kvs; omega) s1 (kv_merge r2 r1) e1)
  exact ⟨.non, _, I2, rfl, q⟩
def mergeD : List (Key × D) → List Key → List D → List Key × List D
  | [], ks, es => (ks, es)
  | p :: r, ks, es => mergeD r (putD ks es p.1 p.2).1 (putD ks es p.1 p.2).2
theorem mergeD_len : ∀ (ps : List (Key × D)) {ks : List Key} {es : List D}, ks.length = es.length → (mergeD ps ks es).1.length = (mergeD ps ks es).2.length ∧ (mergeD ps ks es).2.length ≤ es.length + ps.length
  | [], _, _, h => ⟨h, by simp [mergeD]⟩
  | p :: r, ks, es, h => by
    have h1 := putD_length (k := p.1) (d := p.2) h
    have h2 := mergeD_len r h1.1
    refine ⟨h2.1, ?_⟩
    have := h2.2
    simp only [mergeD, List.length_cons]
    omega
theorem merge_rep {μ : List Addr} {F : Hp} : ∀ (js : List Key) (ds : List D) (ws : List V) {ks : List Key} {es : List D} {vs : List V}, js.length = ds.length → Reps μ F ds ws → Reps μ F es vs → ks.length = es.length →
    ∃ us, mergeK (ks.zip vs) (js.zip ws) = (mergeD (js.zip ds) ks es).1.zip us ∧ Reps μ F (mergeD (js.zip ds) ks es).2 us
  | [], ds, ws, ks, es, vs, hl, r, r2, l => ⟨vs, by simp [mergeK, mergeD], by simpa [mergeD] using r2⟩
  | j :: js, [], ws, ks, es, vs, hl, r, r2, l => by simp at hl
  | j :: js, d :: ds, ws, ks, es, vs, hl, r, r2, l => by
    obtain ⟨w, t, rfl, h1, h2⟩ := r.uncons
    obtain ⟨us, e1, r3⟩ := put_rep (k := j) h1 r2 l
    have l2 := (putD_length (k := j) (d := d) l).1
    obtain ⟨vs', e2, r4⟩ := merge_rep js ds t (by simpa using hl) h2 r3 l2
    refine ⟨vs', ?_, r4⟩
    show mergeK (putK (ks.zip vs) j w) (js.zip t) = _
    rw [e1]
    exact e2
/-- d.update(e): d a dict of the store, e a frozen one -/
noncomputable def updD : D → List D → M D := fun o as S => match o, as with
  | .ref n, [.dic js ds] => (match S[n]? with
    | some (.dic ks es) => if es.length + ds.length ≤ sizeLine then .ok .non (S.set n (.dic (mergeD (js.zip ds) ks es).1 (mergeD (js.zip ds) ks es).2)) else .stuck
    | _ => .stuck)
  | _, _ => .stuck
theorem fn_upd : FnMt C W rUpd updD := fun σ o ds v vs S μ F H Q s r1 r2 P => by
  unfold updD at P
  split at P
  · rename_i n js ds
    split at P
    · rename_i ks es hS
      split at P
      · rename_i hz
        simp only [Rep] at r1
        obtain ⟨a, rfl, ha⟩ := r1
        obtain ⟨y, rfl, r3⟩ := reps1 r2
        simp only [Rep] at r3
        obtain ⟨b, ws, ob, rfl, qb, lb, zb, rb⟩ := r3
        obtain ⟨us, q1, q2, q3, q4, q5⟩ := s.obj n _ a hS ha
        have hne : a ≠ b := fun e => by subst e; rw [q4] at qb; cases qb
        obtain ⟨vs', e1, e2⟩ := merge_rep js ds ws lb rb q3 q2
        obtain ⟨l1, l2⟩ := mergeD_len (js.zip ds) q2
        have l3 : (js.zip ds).length ≤ ds.length := by rw [List.length_zip]; omega
        obtain ⟨s2, g2⟩ := s.put (o := .dK (mergeK (ks.zip us) (js.zip ws))) (ob := .dic (mergeD (js.zip ds) ks es).1 (mergeD (js.zip ds) ks es).2) ha q4 ⟨vs', by rw [upd_same, e1], l1, e2, q4, by omega⟩
        refine ⟨a, b, ks.zip us, js.zip ws, rfl, rfl, q1, .inr ⟨ob, s.ext _ _ qb⟩, hne, ?_, P μ F _ g2 s2 _ (by simp only [Rep])⟩
        have m1 := q3.length
        have m2 := rb.length
        rw [List.length_zip, List.length_zip]
        omega
      · exact False.elim P
    · exact False.elim P
  · exact False.elim P
def dicAt (S : Store) : D → Option (List Key × List D)
  | .ref n => match S[n]? with
    | some (.dic ks ds) => some (ks, ds)
    | _ => none
  | _ => none
def mMtD (g : D → List D → M D) (mo : Env → M D) (ms : List (Env → M D)) : Env → M D := fun env => bnd (mo env) fun o S => match dicAt S o with
  | some _ => bnd (mArgs ms env) (fun ds => g o ds) S
  | none => .stuck
theorem dic_at {S : Store} {μ : List Addr} {F H : Hp} (s : Sim S μ F H) {d : D} {v : V} {ks : List Key} {ds : List D} (r : Rep μ F d v) (e : dicAt S d = some (ks, ds)) : ∃ a kvs, v = .ref a ∧ H a = some (.dK kvs) := by
  cases d with
  | ref n =>
    simp only [Rep] at r
    obtain ⟨a, rfl, ha⟩ := r
    dsimp only [dicAt] at e
    split at e
    · rename_i ks' ds' q
      obtain ⟨vs, z1, _⟩ := s.obj n _ a q ha
      exact ⟨a, _, rfl, z1⟩
    · cases e
  | _ => cases e
variable {o e : Expr} {es : List Expr} {to : TE} {t : TA} {name : Str} {apos cpos : Pos} {id : String} {r : V → List V → Hp → VK → Prop} {gm : D → List D → M D} {mo : Env → M D} {ms : List (Env → M D)}
theorem pv_mtD (slot : Slot "dict" name id) (hty : typeOf (.builtin id) = pure (.type "method_descriptor")) (hm : MtR X id r) (hg : FnMt C W r gm) (ho : PV X C W o mo to) (ha : PL X C W (e :: es) ms t)
    (hbase : attributeBase o name X.env (eval o X.env) = eval o X.env := by rfl)
    (hfew : ((backTo cpos (starEach (e :: es) X.env)).all (fun x => !x.1) && (backToKw cpos (keywordEach [] X.env)).all (fun x => x.1.isSome)
      && decide ((e :: es).length + ([] : List Keyword).length + (if ([] : List Keyword).isEmpty then 0 else 1) < 30)) = true := by rfl)
    (hline : (apos.endLine == cpos.line) = true := by rfl) (hs : starEach (e :: es) X.env = (false, eval e X.env) :: starEach es X.env := by rfl) (hplain : (backTo cpos (starEach es X.env)).any (·.1) = false := by rfl) :
    PV X C W (.Call (.Attribute o name apos) (e :: es) [] cpos) (mMtD gm mo ms) (tBM X.K "dict" r to t) := by
  refine ⟨pe_bm PySem.F.plainAttrs_dict slot hty hm ho.pe ha.pa hbase hfew hline hs hplain, fun σ env S μ F H E s Q P => ?_⟩
  show to σ H fun x H1 => tyV X.K "dict" x H1 ∧ t σ H1 fun xs H2 => r x xs H2 Q
  refine Snd.bind ho.snd E s P fun d v S1 μ1 F1 H1 g1 s1 E1 r1 P1 => ?_
  cases q : dicAt S1 d with
  | none => rw [q] at P1; exact False.elim P1
  | some kd =>
    rw [q] at P1
    obtain ⟨a, kvs, rfl, hH⟩ := dic_at s1 r1 q
    exact ⟨.inr (.inr (.inl ⟨rfl, .inl ⟨kvs, hH⟩⟩)), Snd.bind ha.snd E1 s1 P1 fun ds2 vs2 S2 μ2 F2 H2 g2 s2 E2 r3 P2 => hg σ _ ds2 _ vs2 S2 μ2 F2 H2 Q s2 (g2.rep r1) r3 P2⟩
end

/-! ### range(i, j, -1) -/
section
variable {X : Cx} {C : Nat → Addr} {W : WX}
def downD (hi : Int) (n : Nat) : List D := (List.range n).map fun i => D.int (hi + (i : Nat) * (-1))
def range3M : List D → M Its := fun ds S => match ds with
  | [.int i, .int j, .int c] => if c = -1 ∧ -16777216 ≤ i ∧ i ≤ 16777216 ∧ -16777216 ≤ j ∧ j ≤ 16777216 ∧ i - j ≤ 16777216 then .ok (downD i (i - j).toNat, fun _ => True) S else .stuck
  | _ => .stuck
theorem walk_down {lo : Int} {n : Nat} {μ : List Addr} {F H : Hp} (hn : n ≤ sizeLine) : Walk1 (Itc lo (-1) n) (downD lo n) (fun _ => True) μ F H := by
  have hl : (downD lo n).length = n := by simp [downD]
  refine ⟨by rw [hl]; exact hn, fun S2 μ2 F2 H2 g2 s2 _ => ⟨fun i d hd => ?_, by rw [hl]; exact Nat.le_refl _⟩⟩
  have hi : i < n := by rw [← hl]; exact (List.getElem?_eq_some_iff.mp hd).1
  have hd' : d = .int (lo + (i : Nat) * (-1)) := by
    unfold downD at hd
    rw [List.getElem?_map, List.getElem?_range hi] at hd
    cases hd; rfl
  subst hd'
  refine ⟨hi, fun x H3 hx => ?_⟩
  obtain ⟨rfl, rfl⟩ := hx
  exact ⟨F2, Go.refl _ _ _, s2, by simp only [Rep]⟩
variable {tg a b c : Expr} {p pos : Pos}
theorem pit_range3 {t : TA} {ms : List (Env → M D)} (hg : Gl X "range") (hm : X.mg "range" = none) (ha : PL X C W [a, b, c] ms t) (hs : starEach [a, b, c] X.env = (false, eval a X.env) :: starEach [b, c] X.env := by rfl) (hpl : (backTo pos (starEach [b, c] X.env)).any (·.1) = false := by rfl) :
    PIt X C W tg (.Call (.Name "range" p) [a, b, c] [] pos) (mIts range3M ms) (iRng3 t) := by
  refine ⟨pi_range3 hg hm ha.pa hs hpl, fun σ env S μ F H E s Q P => ?_⟩
  show t σ H fun vs H1 => ∃ (i j c : Int) (n : Nat), vs = [.int i, .int j, .int c] ∧ RgC i j c n ∧ Q (Itc i c n) H1
  refine Snd.bind ha.snd E s P fun ds vs S1 μ1 F1 H1 g1 s1 E1 r1 P1 => ?_
  unfold range3M at P1
  split at P1
  · rename_i i j k
    split at P1
    · rename_i hj
      obtain ⟨rfl, hj⟩ := hj
      obtain ⟨v, r, rfl, h1, h2⟩ := Reps.uncons r1
      obtain ⟨v2, r2, rfl, h3, h4⟩ := Reps.uncons h2
      obtain ⟨v3, r3, rfl, h5, h6⟩ := Reps.uncons h4
      cases h6.nil_inv
      simp only [Rep] at h1 h3 h5
      subst h1 h3 h5
      exact ⟨i, j, -1, (i - j).toNat, rfl, RgC.neg (by omega) (by omega) (by omega) (by omega), P1 μ1 F1 H1 (Go.refl _ _ _) s1 _ (walk_down (by rw [sizeLine_eq]; omega))⟩
    · exact False.elim P1
  · exact False.elim P1
end
end Mir

set_option Elab.async false
set_option maxRecDepth 100000
set_option linter.all false
set_option maxHeartbeats 4000000
namespace Mir
open PySem PySem.Spec PyProof.Rows L2
open Classical

/-! ### sorted of a tuple of ints -/
section
variable {prog : Program} {w : World} {A : Around} {E : Value → Shared → Prop} {s : Shared}
theorem gather_tup {l : Addr} {vs : List Value} {Q : List Value → Shared → Prop} (hl : IsTup s.heap l vs.toArray) (hz : vs.length ≤ sizeLine) (k : ∀ h', (∀ b o, s.heap.get? b = some o → h'.get? b = some o) → Q vs { s with heap := h' }) : wpAny (model prog w) A (collect (.ref l)) Q E s := by
  have hq := k ((s.heap.push (seqObj "list" #[] 0)).update s.heap.objs.size (Obj.mapSeq (· ++ vs.toArray))) fun b o e => by
    have hb : b < s.heap.objs.size := Heap.lt_size e
    rw [Heap.get?_update_ne _ _ _ _ (Nat.ne_of_lt hb)]
    exact Heap.get?_push_of_some _ e
  obtain ⟨o, g, c, n, d⟩ := hl
  have new : (s.heap.push (seqObj "list" #[] 0)).get? s.heap.objs.size = some (seqObj "list" #[] 0) := Heap.get?_push_size _ rfl
  have g' : (s.heap.push (seqObj "list" #[] 0)).get? l = some o := Heap.get?_push_of_some _ g
  unfold collect
  refine wpAny_bind (wpAny_runValue (codeAny_builtin entry_proto_collect' (show wpAny _ _ (do again (.builtin "list.__iadd__" ⟨[← newList [], .ref l], []⟩)) _ _ s from ?_)))
  refine wpAny_bind (wpAny_newList (wpAny_pure ⟨Code.quiet_builtin _ (by decide +kernel), codeAny_builtin entry_list_iadd' (show wpAny _ _ (Builtin.List.listExtendWith (.ref s.heap.objs.size) (.ref l) (.ref s.heap.objs.size)) _ _ { s with heap := s.heap.push (seqObj "list" #[] 0) } from ?_)⟩))
  unfold Builtin.List.listExtendWith
  refine wpAny_bind (wpAny_typeOf (T := "tuple") ⟨o, g', c⟩ ?_)
  rw [if_pos (by rw [show (Value.type "tuple" == Value.type "tuple") = true from rfl]; simp)]
  refine wpAny_bind (listItems_at g' d (wpAny_bind (listItems_at (xs := #[]) (n := 0) new rfl ?_)))
  rw [if_neg (by simp)]
  have hz2 : (#[] ++ vs.toArray).size ≤ sizeLine + 1 := by
    simp only [Array.size_append, List.size_toArray, List.length_nil]
    omega
  refine wpAny_bind (listUpdate_at (xs := #[]) (n := 0) new rfl (wpAny_pure ?_) (Nat.zero_le _) hz2)
  show wpAny (model prog w) A (do
      let o' ← load s.heap.objs.size
      match o'.data with | .seq ys _ => pure ys.toList | _ => unsupported "internal:collect") Q E { s with heap := (s.heap.push (seqObj "list" #[] 0)).update s.heap.objs.size (Obj.mapSeq (· ++ vs.toArray)) }
  refine wpAny_bind (wpAny_load (get?_update_seq new _) (show wpAny _ _ (pure ((#[] : Array Value) ++ vs.toArray).toList) Q E _ from ?_))
  have e : ((#[] : Array Value) ++ vs.toArray).toList = vs := by simp
  rw [e]
  exact wpAny_pure hq
end
section
variable {X : Cx} {C : Nat → Addr} {W : WX} {K : PySem.W.Frag}
def rSortedTp (K : PySem.W.Frag) : List V → Hp → VK → Prop := fun xs H Q => ∃ (a : Addr) (ns : List Int), xs = [.ref a] ∧ SqT K H a (ns.map V.int) ∧ ∀ (ys : List Int) (p : Addr), ys.Perm ns → ys.Pairwise (· ≤ ·) → H p = none → Q (.ref p) (upd H p (.lst (ys.map V.int)))
theorem cr_sortedTp : CallR X (.builtin "sorted") (rSortedTp X.K) := fun pins s σ H xs us Q I r ⟨a, ns, ex, hs, q⟩ => by
  subst ex
  rw [Vals.ref1 r]
  obtain ⟨its, rv, ht, hz⟩ := I.tuple hs
  have few : its.length ≤ sizeLine := by rw [← rv.length]; exact hz
  have hi := rv.ints
  refine Calls.call_function_entry PyProof.Rows.kind_sorted PyProof.Rows.plain_sorted PyProof.Rows.entry_sorted (PyProof.Rows.args_sorted1 _) ?_
  unfold Builtin.«sorted»
  refine wpAny_bind (m := checkCount "sorted" 1 1 _) (wpAny_pure (wpAny_bind (gather_tup (A := X.A.in1) ht few fun h' hk => ?_)))
  have I1 : Inv X pins σ H { s with heap := h' } := I.kept (t' := s.toks) hk
  refine wpAny_bind (wpAny_newList ?_ few)
  have hoL : (h'.push (seqObj "list" its.toArray 0)).get? h'.objs.size = some (seqObj "list" its.toArray 0) := Heap.get?_push_size _ rfl
  show wpAny _ _ _ _ _ { s with heap := h'.push (seqObj "list" its.toArray 0) }
  refine wpAny_bind (wpAny_holding (wpAny_call_entry PyProof.Rows.slot_list_sort ⟨_, hoL, rfl⟩ PyProof.Rows.entry_list_sort
    (SrtO.list_sort_ord (s := { s with heap := h'.push (seqObj "list" its.toArray 0) }) SrtO.swo_int hoL few (fun h2 => SrtO.ints_sortable hi h2) fun out g1 g2 => ⟨_, rfl, ?_⟩) (PyProof.Rows.args_list_sort _)))
  obtain ⟨k1, k2, k3⟩ := SrtO.ints_out hi g1 g2
  obtain ⟨e', he'⟩ := PyProof.Rows.sortedHeap_at (vs := its) (out := out.toArray) hoL
  have hlen : ((out.map SrtO.iv).map V.int).length ≤ sizeLine := by rw [List.length_map, k2.length_eq]; rw [List.length_map] at hz; exact hz
  refine wpAny_pure ⟨_, rfl, .ref h'.objs.size, upd H h'.objs.size (.lst ((out.map SrtO.iv).map V.int)), I1.laid (t' := s.toks) (fun b u e => ?_) (Nat.le_refl _) ⟨hlen, out, e', vals_of_ints k1, he'⟩, rfl, q _ _ k2 k3 (I1.hok.fresh (Nat.le_refl _))⟩
  have hb : b < h'.objs.size := Heap.lt_size e
  rw [PyProof.Rows.sortedHeap_old (Nat.ne_of_lt hb) (by rw [Heap.size_push]; exact Nat.lt_succ_of_lt hb)]
  exact Heap.get?_push_of_some _ e
def sortedTp : List D → M D := fun ds S => match ds with
  | [.tup xs] => (match intsOf xs with
    | some ns => .ok (.lst ((sortI ns).map D.int)) S
    | none => .stuck)
  | _ => .stuck
theorem fn_sortedTp : FnL C W (rSortedTp K) sortedTp := fun σ ds vs S μ F H Q s r P => by
  unfold sortedTp at P
  split at P
  · rename_i xs
    split at P
    · rename_i ns e
      obtain ⟨v, rfl, r1⟩ := reps1 r
      simp only [Rep] at r1
      obtain ⟨a, ws, rfl, q, z, r3⟩ := r1
      have hw := ints_rep r3 e
      subst hw
      refine ⟨a, ns, rfl, .inl (.inl (s.ext _ _ q)), fun ys p h1 h2 hp => ?_⟩
      rw [sortI_of h1 h2]
      exact new_lst s (intsD_rep _) (by rw [List.length_map, (sortI_perm ns).length_eq, ← intsOf_length e]; exact z) P hp
    · exact False.elim P
  · exact False.elim P
end
end Mir

set_option Elab.async false
set_option maxRecDepth 100000
set_option linter.all false
set_option maxHeartbeats 4000000
namespace K14
open PySem Mir

noncomputable def m_is_integer : List D → M D := fnRun 1 (sRet (mAnd (mCall isiD [(mVar 0), (mK (.ty "int"))]) (mNot (mCall isiD [(mVar 0), (mK (.ty "bool"))]))))
noncomputable def m_ascends : List D → M D := fnRun 2 (sRet (mCall allD [(mLc [1] (mIts range1M [(mOp subD (mCall lenD [(mVar 0)]) (mK (.int 1)))]) (gtN 1) bYes (mOp ltD (mOp ixD (mVar 0) (mVar 1)) (mOp ixD (mVar 0) (mOp addD (mVar 1) (mK (.int 1))))) resF)]))
noncomputable def m_check_count : List D → M D := fnRun 1 (sIf (bOr (bNot (mTest (mCall m_is_integer [(mVar 0)]))) (mTest (mOp ltD (mVar 0) (mK (.int 0))))) (sRaise 0) sNil)
noncomputable def m_is_integer_clause : List D → M D := fnRun 3 (sSeq (sIf (bOr (bNot (mTest (mCall isiD [(mVar 1), (mK (.ty "tuple"))]))) (bNot (mTest (mCall allD [(mLc [2] (mSeq (mVar 1)) (gtN 2) bYes (mCall m_is_integer [(mVar 2)]) resF)])))) (sRet (mK (.bl false))) sNil)
  (sSeq (sIf (bOr (bNot (mTest (mCall allD [(mLc [2] (mSeq (mVar 1)) (gtN 2) bYes (mAnd (mOp neD (mVar 2) (mK (.int 0))) (mChain leD leD (mUn negD (mVar 0)) (mVar 2) (mVar 0))) resF)]))) (bNot (mTest (mCall m_ascends [(mVar 1)])))) (sRet (mK (.bl false))) sNil)
  (sRet (mOp eqD (mLenSet (mLc [2] (mSeq (mVar 1)) (gtN 2) bYes (mCall absD [(mVar 2)]) resF)) (mCall lenD [(mVar 1)])))))
noncomputable def m_check_clauses : List D → M D := fnRun 3 (sSeq (sExpr (mCall m_check_count [(mVar 0)]))
  (sIf (bOr (bNot (mTest (mCall isiD [(mVar 1), (mK (.ty "tuple"))]))) (bNot (mTest (mCall allD [(mLc [2] (mSeq (mVar 1)) (gtN 2) bYes (mCall m_is_integer_clause [(mVar 0), (mVar 2)]) resF)])))) (sRaise 1) sNil))
noncomputable def m_check_literals : List D → M D := fnRun 2 (sIf (bNot (mTest (mCall m_is_integer_clause [(mVar 0), (mVar 1)]))) (sRaise 2) sNil)
noncomputable def m_forced_once : List D → M D := fnRun 6 (sSeq (sSet 2 (mOwn []))
  (sSeq (sFor (mSeq (mVar 0)) (gtN 3)
  (sSeq (sSet 4 (mLc [5] (mSeq (mVar 3)) (gtN 5) (mTest (mOp ninDict (mUn negD (mVar 5)) (mVar 1))) (mVar 5) resF))
  (sSeq (sIf (mTest (mOp eqD (mVar 4) (mLst []))) (sRet (mK .non)) sNil)
  (sIf (bAnd (mTest (mOp eqD (mCall lenD [(mVar 4)]) (mK (.int 1)))) (mTest (mOp ninDict (mOp ixD (mVar 4) (mK (.int 0))) (mVar 1)))) (sExpr (mMtL appD (mVar 2) [(mOp ixD (mVar 4) (mK (.int 0)))])) sNil))))
  (sRet (mVar 2))))
noncomputable def m_closed : List D → M D := fnRun 5 (sSeq (sSet 2 (mDcO [4] (mSeq (mVar 1)) (gtN 4) bYes (mVar 4) (mK (.bl true))))
  (sSeq (sSet 3 (mCall m_forced_once [(mVar 0), (mVar 2)]))
  (sSeq (sWhile (bAnd (mTest (mNotN (mVar 3))) (mTest (mOp neD (mVar 3) (mLst []))))
  (sSeq (sExpr (mMtD updD (mVar 2) [(mDc [4] (mSeq (mVar 3)) (gtN 4) bYes (mVar 4) (mK (.bl true)))]))
  (sSeq (sIf (mTest (mCall anyD [(mLc [4] (mSeq (mVar 3)) (gtN 4) bYes (mOp inDict (mUn negD (mVar 4)) (mVar 2)) resF)])) (sRet (mK .non)) sNil)
  (sSet 3 (mCall m_forced_once [(mVar 0), (mVar 2)])))))
  (sRet (mIf (mTest (mIsN (mVar 3))) (mK .non) (mVar 2))))))
noncomputable def m_forced : List D → M D := fnRun 4 (sSeq (sExpr (mCall m_check_clauses [(mVar 0), (mVar 1)]))
  (sSeq (sExpr (mCall m_check_literals [(mVar 0), (mVar 2)]))
  (sSeq (sSet 3 (mCall m_closed [(mVar 1), (mVar 2)]))
  (sRet (mIf (mTest (mIsN (mVar 3))) (mK .non) (mCall tupleD [(mCall sortedD [(mVar 3)])]))))))
noncomputable def m_probes : List D → M D := fnRun 4 (sSeq (sExpr (mCall m_check_clauses [(mVar 0), (mVar 1)]))
  (sSeq (sSet 2 (mLc [3] (mIts range2M [(mUn negD (mVar 0)), (mOp addD (mVar 0) (mK (.int 1)))]) (gtN 3) (mTest (mOp neD (mVar 3) (mK (.int 0)))) (mVar 3) resF))
  (sRet (mCall tupleD [(mLc [3] (mSeq (mVar 2)) (gtN 3) (mTest (mIsN (mCall m_closed [(mVar 1), (mTup [(mUn negD (mVar 3))])]))) (mVar 3) resF)]))))
noncomputable def m_is_settled : List D → M D := fnRun 6 (sSeq (sExpr (mCall m_check_clauses [(mVar 0), (mVar 1)]))
  (sSeq (sExpr (mCall m_check_literals [(mVar 0), (mVar 2)]))
  (sSeq (sSet 3 (mCall m_closed [(mVar 1), (mVar 2)]))
  (sSeq (sIf (mTest (mIsN (mVar 3))) (sRet (mK (.bl false))) sNil)
  (sRet (mCall allD [(mLc [4] (mSeq (mVar 1)) (gtN 4) bYes (mCall anyD [(mLc [5] (mSeq (mVar 4)) (gtN 5) bYes (mOp inDict (mVar 5) (mVar 3)) resF)]) resF)]))))))
noncomputable def m__law_deck : List D → M D := fnRun 1 (sSeq (sSet 0 (mCall intD1 [(mVar 0)]))
  (sRet (mOwn [(mCall max2D [(mK (.int 0)), (mOp subD (mVar 0) (mOp powD (mK (.int 10)) (mK (.int 22))))]), (mOp modD (mCall intD1 [(mOp addD (mOp mulD (mVar 0) (mK (.int 950706376))) (mK (.int 65539)))]) (mK (.int 2305843009213693951)))])))
noncomputable def m__law_draw : List D → M D := fnRun 3 (sSeq (sIf (mTest (mOp gtD (mOp ixD (mVar 0) (mK (.int 0))) (mK (.int 0)))) (sSeq (sSet 2 (mOp modD (mCall intD1 [(mOp ixD (mVar 0) (mK (.int 0)))]) (mVar 1)))
  (sSeq (sSub (mVar 0) (mK (.int 0)) (mOp fdivD (mCall intD1 [(mOp ixD (mVar 0) (mK (.int 0)))]) (mVar 1)) setD)
  (sRet (mVar 2)))) sNil)
  (sSeq (sSub (mVar 0) (mK (.int 1)) (mOp modD (mCall intD1 [(mOp addD (mOp mulD (mOp ixD (mVar 0) (mK (.int 1))) (mK (.int 3935559000))) (mK (.int 30011)))]) (mK (.int 2305843009213693951))) setD)
  (sRet (mOp modD (mOp fdivD (mCall intD1 [(mOp ixD (mVar 0) (mK (.int 1)))]) (mK (.int 131072))) (mVar 1)))))
noncomputable def m__law_pick : List D → M D := fnRun 2 (sRet (mOp ixD (mVar 1) (mCall m__law_draw [(mVar 0), (mCall lenD [(mVar 1)])])))
noncomputable def m__law_same : Nat → List D → M D
  | 0 => fun _ => stk
  | n + 1 => fnRun 3 ((fun rec : List D → M D => (sSeq (sIf (mTest (mCall isi2D [(mVar 1), (mTup [(mK (.ty "tuple")), (mK (.ty "list"))])])) (sSeq (sIf (bOr (mTest (mOp neD (mCall isiD [(mVar 1), (mK (.ty "tuple"))]) (mCall isiD [(mVar 0), (mK (.ty "tuple"))]))) (mTest (mOp neD (mCall isiD [(mVar 1), (mK (.ty "list"))]) (mCall isiD [(mVar 0), (mK (.ty "list"))])))) (sRet (mK (.bl false))) sNil)
  (sRet (mAnd (mOp eqD (mCall lenD [(mVar 0)]) (mCall lenD [(mVar 1)])) (mCall allD [(mLc [2] (mIts range1M [(mCall lenD [(mVar 1)])]) (gtN 2) bYes (mCall rec [(mOp ixD (mVar 0) (mVar 2)), (mOp ixD (mVar 1) (mVar 2))]) resF)])))) sNil)
  (sSeq (sIf (mTest (mIsN (mVar 1))) (sRet (mIsN (mVar 0))) sNil)
  (sSeq (sIf (mTest (mCall isiD [(mVar 1), (mK (.ty "bool"))])) (sRet (mAnd (mCall isiD [(mVar 0), (mK (.ty "bool"))]) (mOp eqD (mVar 0) (mVar 1)))) sNil)
  (sSeq (sIf (mTest (mCall isiD [(mVar 1), (mK (.ty "int"))])) (sRet (mAnd (mCall isiD [(mVar 0), (mK (.ty "int"))]) (mAnd (mNot (mCall isiD [(mVar 0), (mK (.ty "bool"))])) (mOp eqD (mVar 0) (mVar 1))))) sNil)
  (sRet (mAnd (mCall isiD [(mVar 0), (mK (.ty "str"))]) (mOp eqD (mVar 0) (mVar 1))))))))) (m__law_same n))
noncomputable def m__law_int : List D → M D := fnRun 1 (sRet (mAnd (mCall isiD [(mVar 0), (mK (.ty "int"))]) (mNot (mCall isiD [(mVar 0), (mK (.ty "bool"))]))))
noncomputable def m__law_bent : Nat → List D → M D
  | 0 => fun _ => stk
  | n + 1 => fnRun 5 ((fun rec : List D → M D => (sSeq (sIf (bAnd (mTest (mCall isiD [(mVar 1), (mK (.ty "tuple"))])) (bAnd (mTest (mOp neD (mVar 1) (mTup []))) (mTest (mOp gtD (mCall m__law_draw [(mVar 0), (mK (.int 6))]) (mK (.int 0)))))) (sSeq (sSet 2 (mCall m__law_draw [(mVar 0), (mCall lenD [(mVar 1)])]))
  (sSeq (sSet 3 (mCall m__law_draw [(mVar 0), (mK (.int 9))]))
  (sSeq (sIf (mTest (mOp eqD (mVar 3) (mK (.int 0)))) (sRet (mOp addD (mSl slD (mVar 1) mNoPart (mPart (mVar 2))) (mSl slD (mVar 1) (mPart (mOp addD (mVar 2) (mK (.int 1)))) mNoPart))) sNil)
  (sSeq (sIf (mTest (mOp eqD (mVar 3) (mK (.int 1)))) (sRet (mOp addD (mOp addD (mSl slD (mVar 1) mNoPart (mPart (mVar 2))) (mTup [(mOp ixD (mVar 1) (mVar 2)), (mOp ixD (mVar 1) (mVar 2))])) (mSl slD (mVar 1) (mPart (mOp addD (mVar 2) (mK (.int 1)))) mNoPart))) sNil)
  (sSeq (sIf (mTest (mOp eqD (mVar 3) (mK (.int 2)))) (sRet (mOp addD (mSl slD (mVar 1) mNoPart (mPart (mVar 2))) (mUn backD (mSl slD (mVar 1) (mPart (mVar 2)) mNoPart)))) sNil)
  (sRet (mOp addD (mOp addD (mSl slD (mVar 1) mNoPart (mPart (mVar 2))) (mTup [(mCall rec [(mVar 0), (mOp ixD (mVar 1) (mVar 2))])])) (mSl slD (mVar 1) (mPart (mOp addD (mVar 2) (mK (.int 1)))) mNoPart)))))))) sNil)
  (sSeq (sIf (bAnd (mTest (mCall isiD [(mVar 1), (mK (.ty "int"))])) (bAnd (bNot (mTest (mCall isiD [(mVar 1), (mK (.ty "bool"))]))) (mTest (mOp gtD (mCall m__law_draw [(mVar 0), (mK (.int 5))]) (mK (.int 0)))))) (sRet (mOp addD (mVar 1) (mOp ixD (mLst [(mK (.int 1)), (mUn negD (mK (.int 1))), (mK (.int 2)), (mUn negD (mVar 1)), (mOp powD (mK (.int 10)) (mK (.int 5))), (mUn negD (mK (.int 3)))]) (mCall m__law_draw [(mVar 0), (mK (.int 6))])))) sNil)
  (sSeq (sSet 4 (mIf (mTest (mCall isiD [(mVar 1), (mK (.ty "tuple"))])) (mCall listD [(mVar 1)]) (mLst [(mVar 1)])))
  (sRet (mOp ixD (mLst [(mK .non), (mTup []), (mVar 4), (mK (.bl true)), (mK (.str "num")), (mTup [(mVar 1)]), (mK (.int 0)), (mK (.dic [] [])), (mK (.str "x")), (mK (.str "app")), (mK (.str "int")), (mTup [(mK (.str "num")), (mK (.int 1)), (mK (.int 1))])]) (mCall m__law_draw [(mVar 0), (mK (.int 12))]))))))) (m__law_bent n))
noncomputable def m__law_order : List D → M D := fnRun 5 (sSeq (sPar 2 3 [(mListRg true (mRg1 (mVar 1))), (mOwn [])])
  (sSeq (sFor (mIts range1M [(mVar 1)]) (gtN 4)
  (sExpr (mMtL appD (mVar 3) [(mMtL popD (mVar 2) [(mCall m__law_draw [(mVar 0), (mCall lenD [(mVar 2)])])])])))
  (sRet (mCall tupleD [(mVar 3)]))))
noncomputable def m__law_is_clause : List D → M D := fnRun 3 (sSeq (sIf (bOr (bNot (mTest (mCall isiD [(mVar 1), (mK (.ty "tuple"))]))) (bNot (mTest (mCall allD [(mLc [2] (mSeq (mVar 1)) (gtN 2) bYes (mAnd (mCall m__law_int [(mVar 2)]) (mAnd (mOp neD (mVar 2) (mK (.int 0))) (mOp leD (mCall absD [(mVar 2)]) (mVar 0)))) resF)])))) (sRet (mK (.bl false))) sNil)
  (sRet (mAnd (mOp eqD (mCall listD [(mVar 1)]) (mSortedSet (mVar 1))) (mNot (mCall anyD [(mLc [2] (mSeq (mVar 1)) (gtN 2) bYes (mOp inD (mUn negD (mVar 2)) (mVar 1)) resF)])))))
noncomputable def m__law_some_clause : List D → M D := fnRun 7 (sSeq (sSet 3 (mListRg true (mRg2 (mK (.int 1)) (mOp addD (mVar 1) (mK (.int 1))))))
  (sSeq (sSet 4 (mOwn []))
  (sSeq (sFor (mIts range1M [(mCall min2D [(mVar 1), (mCall m__law_draw [(mVar 0), (mOp addD (mVar 2) (mK (.int 1)))])])]) (gtN 5)
  (sSeq (sSet 6 (mMtL popD (mVar 3) [(mCall m__law_draw [(mVar 0), (mCall lenD [(mVar 3)])])]))
  (sExpr (mMtL appD (mVar 4) [(mCall m__law_pick [(mVar 0), (mLst [(mVar 6), (mUn negD (mVar 6))])])]))))
  (sRet (mCall tupleD [(mCall sortedI [(mVar 4)])])))))
noncomputable def m__law_clauses : List D → M D := fnRun 10 (sSeq (sSet 3 (mLc [6] (mIts range1M [(mCall m__law_draw [(mVar 0), (mOp addD (mVar 2) (mK (.int 1)))])]) (gtN 6) bYes (mCall m__law_some_clause [(mVar 0), (mVar 1), (mK (.int 3))]) resF))
  (sSeq (sSet 3 (mLc [7] (mSeq (mVar 3)) (gtN 7) (bOr (mTest (mOp neD (mVar 7) (mTup []))) (mTest (mOp eqD (mCall m__law_draw [(mVar 0), (mK (.int 4))]) (mK (.int 0))))) (mVar 7) resF))
  (sSeq (sIf (bAnd (mTest (mOp gtD (mVar 1) (mK (.int 1)))) (mTest (mOp eqD (mCall m__law_draw [(mVar 0), (mK (.int 4))]) (mK (.int 0))))) (sSeq (sPar 4 5 [(mOp ixD (mLst [(mK (.int 1)), (mUn negD (mK (.int 1)))]) (mCall m__law_draw [(mVar 0), (mK (.int 2))])), (mOp ixD (mLst [(mK (.int 2)), (mUn negD (mK (.int 2)))]) (mCall m__law_draw [(mVar 0), (mK (.int 2))]))])
  (sSet 3 (mOp addD (mVar 3) (mLc [8] (mSeq (mLst [(mTup [(mVar 4), (mVar 5)]), (mTup [(mUn negD (mVar 4)), (mVar 5)]), (mTup [(mVar 4), (mUn negD (mVar 5))]), (mTup [(mUn negD (mVar 4)), (mUn negD (mVar 5))])])) (gtN 8) bYes (mCall tupleD [(mCall sortedTp [(mVar 8)])]) resF)))) sNil)
  (sRet (mCall tupleD [(mLc [9] (mSeq (mCall m__law_order [(mVar 0), (mCall lenD [(mVar 3)])])) (gtN 9) bYes (mOp ixD (mVar 3) (mVar 9)) resF)])))))
noncomputable def m__law_all_truths : List D → M D := fnRun 4 (sSeq (sSet 1 (mLst [(mTup [])]))
  (sSeq (sFor (mIts range1M [(mVar 0)]) (gtN 2)
  (sSet 1 (mOp addD (mLc [3] (mSeq (mVar 1)) (gtN 3) bYes (mOp addD (mVar 3) (mTup [(mK (.bl false))])) resF) (mLc [3] (mSeq (mVar 1)) (gtN 3) bYes (mOp addD (mVar 3) (mTup [(mK (.bl true))])) resF))))
  (sRet (mCall sortedG [(mVar 1)]))))
noncomputable def m__law_hold_all : List D → M D := fnRun 4 (sRet (mCall allD [(mLc [2] (mSeq (mVar 1)) (gtN 2) bYes (mCall anyD [(mLc [3] (mSeq (mVar 2)) (gtN 3) bYes (mOp eqD (mOp ixD (mVar 0) (mOp subD (mCall absD [(mVar 3)]) (mK (.int 1)))) (mOp gtD (mVar 3) (mK (.int 0)))) resF)]) resF)]))
noncomputable def m__law_models : List D → M D := fnRun 3 (sRet (mLc [2] (mSeq (mCall m__law_all_truths [(mVar 0)])) (gtN 2) (mTest (mCall m__law_hold_all [(mVar 2), (mVar 1)])) (mVar 2) resF))
noncomputable def m__law_no_clauses : List D → M D := fnRun 2 (sRet (mCall m__law_pick [(mVar 0), (mLst [(mK .non), (mLst []), (mK (.int 3)), (mTup [(mTup [(mK (.int 0))])]), (mTup [(mTup [(mK (.int 1)), (mUn negD (mK (.int 1)))])]), (mTup [(mTup [(mK (.int 2)), (mK (.int 1))])]), (mTup [(mTup [(mOp addD (mVar 1) (mK (.int 1)))])]), (mTup [(mLst [(mK (.int 1))])]), (mTup [(mTup [(mK (.bl true))])]), (mTup [(mTup [(mK (.int 1)), (mK (.int 1))])]), (mTup [(mK (.int 1))]), (mK (.str "x")), (mK (.dic [] []))])]))
noncomputable def m__law_ask : List D → M D := fnRun 4 (sSeq (sAsg (gtTup 2 (gtCons (gtN 2) (gtCons (gtN 3) gtNil))) (mTup [(mK .non), (mK (.str ""))]))
  (sSeq (sTry 3 (sIf (mTest (mOp eqD (mVar 0) (mK (.int 0)))) (sSet 2 (mCall m_forced [(mOp ixD (mVar 1) (mK (.int 0))), (mOp ixD (mVar 1) (mK (.int 1))), (mOp ixD (mVar 1) (mK (.int 2)))])) (sIf (mTest (mOp eqD (mVar 0) (mK (.int 1)))) (sSet 2 (mCall m_is_settled [(mOp ixD (mVar 1) (mK (.int 0))), (mOp ixD (mVar 1) (mK (.int 1))), (mOp ixD (mVar 1) (mK (.int 2)))])) (sSet 2 (mCall m_probes [(mOp ixD (mVar 1) (mK (.int 0))), (mOp ixD (mVar 1) (mK (.int 1)))])))) [(2, sQuiet (sSet 3 (mK (.str "literals")))), (1, sQuiet (sSet 3 (mK (.str "clauses")))), (0, sQuiet (sSet 3 (mK (.str "number"))))])
  (sRet (mIf (mTest (mOp eqD (mVar 3) (mK (.str "")))) (mLst [(mVar 2)]) (mVar 3)))))
noncomputable def m__law_forced : List D → M D := fnRun 8 (sSeq (sAsg (gtTup 2 (gtCons (gtN 2) (gtCons (gtN 3) gtNil))) (mTup [(mCall listO [(mVar 1)]), (mK (.bl true))]))
  (sSeq (sWhile (mTest (mVar 3))
  (sSeq (sSet 3 (mK (.bl false)))
  (sSeq (sFor (mSeq (mVar 0)) (gtN 4)
  (sSeq (sSet 5 (mLc [6] (mSeq (mVar 4)) (gtN 6) (mTest (mOp ninD (mUn negD (mVar 6)) (mVar 2))) (mVar 6) resF))
  (sSeq (sIf (mTest (mOp eqD (mVar 5) (mLst []))) (sRet (mK .non)) sNil)
  (sIf (bAnd (mTest (mOp eqD (mCall lenD [(mVar 5)]) (mK (.int 1)))) (mTest (mOp ninD (mOp ixD (mVar 5) (mK (.int 0))) (mVar 2)))) (sSeq (sExpr (mMtL appD (mVar 2) [(mOp ixD (mVar 5) (mK (.int 0)))]))
  (sSet 3 (mK (.bl true)))) sNil))))
  (sSeq (sFor (mSeq (mVar 0)) (gtN 4)
  (sFor (mSeq (mVar 4)) (gtN 6)
  (sIf (bAnd (mTest (mOp ninD (mVar 6) (mVar 2))) (mTest (mCall allD [(mLc [7] (mSeq (mVar 4)) (gtN 7) (mTest (mOp neD (mVar 7) (mVar 6))) (mOp inD (mUn negD (mVar 7)) (mVar 2)) resF)]))) (sSeq (sExpr (mMtL appD (mVar 2) [(mVar 6)]))
  (sSet 3 (mK (.bl true)))) sNil)))
  (sIf (mTest (mCall anyD [(mLc [6] (mSeq (mVar 2)) (gtN 6) bYes (mOp inD (mUn negD (mVar 6)) (mVar 2)) resF)])) (sRet (mK .non)) sNil)))))
  (sRet (mCall tupleD [(mCall sortedI [(mVar 2)])]))))
noncomputable def m__law_due : List D → M D := fnRun 7 (sSeq (sSet 4 (mCall m__law_forced [(mVar 2), (mVar 3)]))
  (sSeq (sIf (mTest (mOp eqD (mVar 0) (mK (.int 0)))) (sRet (mLst [(mVar 4)])) sNil)
  (sRet (mLst [(mAnd (mNotN (mVar 4)) (mCall allD [(mLc [5] (mSeq (mVar 2)) (gtN 5) bYes (mCall anyD [(mLc [6] (mSeq (mVar 5)) (gtN 6) bYes (mOp inD (mVar 6) (mVar 4)) resF)]) resF)]))]))))
noncomputable def m__law_facts_right : List D → M D := fnRun 8 (sSeq (sSet 4 (mCall m__law_forced [(mVar 1), (mVar 2)]))
  (sSeq (sSet 5 (mLc [6] (mSeq (mVar 3)) (gtN 6) (mTest (mCall allD [(mLc [7] (mSeq (mVar 2)) (gtN 7) bYes (mOp eqD (mOp ixD (mVar 6) (mOp subD (mCall absD [(mVar 7)]) (mK (.int 1)))) (mOp gtD (mVar 7) (mK (.int 0)))) resF)])) (mVar 6) resF))
  (sSeq (sIf (mTest (mIsN (mVar 4))) (sRet (mOp eqD (mVar 5) (mLst []))) sNil)
  (sSeq (sIf (bNot (mTest (mCall allD [(mLc [6] (mSeq (mVar 5)) (gtN 6) bYes (mCall allD [(mLc [7] (mSeq (mVar 4)) (gtN 7) bYes (mOp eqD (mOp ixD (mVar 6) (mOp subD (mCall absD [(mVar 7)]) (mK (.int 1)))) (mOp gtD (mVar 7) (mK (.int 0)))) resF)]) resF)]))) (sRet (mK (.bl false))) sNil)
  (sRet (mOr (mOp neD (mVar 5) (mLst [])) (mNot (mOp ixD (mCall m__law_due [(mK (.int 1)), (mVar 0), (mVar 1), (mVar 2)]) (mK (.int 0))))))))))
noncomputable def law_body : MS := (sSeq (sSet 2 (mCall m__law_deck [(mVar 1)]))
  (sFor (mIts range1M [(mK (.int 2))]) (gtN 3)
  (sSeq (sSet 4 (mOp addD (mK (.int 1)) (mCall m__law_draw [(mVar 2), (mK (.int 8))])))
  (sSeq (sSet 5 (mCall m__law_clauses [(mVar 2), (mVar 4), (mK (.int 12))]))
  (sSeq (sSet 6 (mCall m__law_models [(mVar 4), (mVar 5)]))
  (sSeq (sSet 7 (mOp addD (mLc [16] (mIts range3M [(mVar 4), (mK (.int 0)), (mUn negD (mK (.int 1)))]) (gtN 16) bYes (mUn negD (mVar 16)) resF) (mListRg false (mRg2 (mK (.int 1)) (mOp addD (mVar 4) (mK (.int 1)))))))
  (sSeq (sSet 8 (mCall tupleD [(mLc [16] (mSeq (mVar 7)) (gtN 16) (mTest (mIsN (mCall m__law_forced [(mVar 5), (mTup [(mUn negD (mVar 16))])]))) (mVar 16) resF)]))
  (sSeq (sIf (bNot (mTest (mCall (m__law_same 8) [(mCall m__law_ask [(mK (.int 2)), (mLst [(mVar 4), (mVar 5)])]), (mLst [(mVar 8)])]))) (sRet (mK (.bl false))) sNil)
  (sSeq (sIf (bNot (mTest (mCall allD [(mLc [17] (mSeq (mVar 6)) (gtN 17) bYes (mCall allD [(mLc [16] (mSeq (mVar 8)) (gtN 16) bYes (mOp eqD (mOp ixD (mVar 17) (mOp subD (mCall absD [(mVar 16)]) (mK (.int 1)))) (mOp gtD (mVar 16) (mK (.int 0)))) resF)]) resF)]))) (sRet (mK (.bl false))) sNil)
  (sSeq (sFor (mIts range1M [(mK (.int 6))]) (gtN 9)
  (sSeq (sSet 10 (mCall m__law_some_clause [(mVar 2), (mVar 4), (mK (.int 3))]))
  (sSeq (sIf (bNot (mTest (mCall m__law_facts_right [(mVar 4), (mVar 5), (mVar 10), (mVar 6)]))) (sRet (mK (.bl false))) sNil)
  (sFor (mSeq (mLst [(mVar 10), (mCall (m__law_bent 8) [(mVar 2), (mVar 10)]), (mTup []), (mOp addD (mVar 10) (mTup [(mOp addD (mVar 4) (mK (.int 1)))])), (mCall listD [(mVar 10)]), (mTup [(mK (.int 1)), (mUn negD (mK (.int 1)))]), (mK .non)])) (gtN 11)
  (sSeq (sSet 12 (mCall m__law_is_clause [(mVar 4), (mVar 11)]))
  (sFor (mSeq (mLst [(mK (.int 0)), (mK (.int 1))])) (gtN 13)
  (sSeq (sSet 14 (mIf (mTest (mVar 12)) (mCall m__law_due [(mVar 13), (mVar 4), (mVar 5), (mVar 11)]) (mK (.str "literals"))))
  (sIf (bNot (mTest (mCall (m__law_same 8) [(mCall m__law_ask [(mVar 13), (mLst [(mVar 4), (mVar 5), (mVar 11)])]), (mVar 14)]))) (sRet (mK (.bl false))) sNil))))))))
  (sSeq (sSet 15 (mCall m__law_no_clauses [(mVar 2), (mVar 4)]))
  (sSeq (sIf (mTest (mOp neD (mLc [13] (mIts range1M [(mK (.int 3))]) (gtN 13) bYes (mCall m__law_ask [(mVar 13), (mLst [(mVar 4), (mVar 15), (mK .non)])]) resF) (mRep [(mK (.str "clauses"))] (mK (.int 3))))) (sRet (mK (.bl false))) sNil)
  (sIf (mTest (mOp neD (mLc [13] (mIts range1M [(mK (.int 3))]) (gtN 13) bYes (mCall m__law_ask [(mVar 13), (mLst [(mCall m__law_pick [(mVar 2), (mLst [(mUn negD (mK (.int 1))), (mK .non), (mK (.bl true)), (mK (.str "3"))])]), (mVar 15), (mK .non)])]) resF) (mRep [(mK (.str "number"))] (mK (.int 3))))) (sRet (mK (.bl false))) sNil)))))))))))))
noncomputable def law_rest : MS := (sRet (mK (.bl true)))
end K14

set_option Elab.async false
set_option maxRecDepth 100000
set_option linter.all false
set_option maxHeartbeats 4000000
namespace K14
open PySem PySem.Spec PyProof.Rows L2 Mir

def top (i : Nat) : Stmt := PySem.Challenge.pw_theoriesjoin_k14_units.main.body.getD i (.Pass ⟨0, 0, 0, 0⟩)
structure Txt (K : PySem.W.Frag) (mg : Str → Option Value) (C : Nat → Addr) : Prop where
  b_abs : mg "abs" = none
  b_all : mg "all" = none
  b_any : mg "any" = none
  b_bool : mg "bool" = none
  b_int : mg "int" = none
  b_isinstance : mg "isinstance" = none
  b_len : mg "len" = none
  b_list : mg "list" = none
  b_max : mg "max" = none
  b_min : mg "min" = none
  b_range : mg "range" = none
  b_set : mg "set" = none
  b_sorted : mg "sorted" = none
  b_str : mg "str" = none
  b_tuple : mg "tuple" = none
  x_InvalidNumber : ExAt K mg "InvalidNumber" (C 0)
  x_InvalidClauses : ExAt K mg "InvalidClauses" (C 1)
  x_InvalidLiterals : ExAt K mg "InvalidLiterals" (C 2)
  exm : ∀ c k, c < 3 → k < 3 → PySem.W.exmOne K (.ref (C c)) (.ref (C k)) = some (decide (c = k))
variable {P : Program} {w : World} {K : PySem.W.Frag} {mg : Str → Option Value} {base : Heap} {C : Nat → Addr}
theorem sc_is_integer : FnScope ["value"] ["value"] (defScope (top 6)) := ⟨rfl, rfl, rfl, by decide +kernel, rfl, by decide +kernel, by decide +kernel⟩
theorem ok_is_integer {f : Addr} {fd : FuncData} (F : Fun K "is_integer" "is_integer" (top 6) f fd) (hx : mg "is_integer" = some (.ref f)) (T : Txt K mg C)  : FnM P w K mg base C 1 "is_integer" 1 m_is_integer :=
  fnM_of (k := 0) (N := ["value"]) F hx (F.binds (ps := ["value"]) fun _ _ _ _ _ _ us hl => match us, hl with | [_], _ => rfl) sc_is_integer (fun cdv A outer s H E hr => ⟨_, (pms_one (pm_ret (pv_and (pv_callB call_isi fn_isi (by rfl) T.b_isinstance (by decide +kernel) (pl_cons (pv_var (L2.pv 0)) (pl_cons (pv_type (by rfl) T.b_int (by decide +kernel)) pl_nil))) (pv_one (pv_not (pv_callB call_isi fn_isi (by rfl) T.b_isinstance (by decide +kernel) (pl_cons (pv_var (L2.pv 0)) (pl_cons (pv_type (by rfl) T.b_bool (by decide +kernel)) pl_nil))))))))⟩)
theorem sc_ascends : FnScope ["values", "k"] ["values"] (defScope (top 7)) := ⟨rfl, rfl, rfl, by decide +kernel, rfl, by decide +kernel, by decide +kernel⟩
theorem ok_ascends {f : Addr} {fd : FuncData} (F : Fun K "ascends" "ascends" (top 7) f fd) (hx : mg "ascends" = some (.ref f)) (T : Txt K mg C)  : FnM P w K mg base C 1 "ascends" 1 m_ascends :=
  fnM_of (k := 0) (N := ["values", "k"]) F hx (F.binds (ps := ["values"]) fun _ _ _ _ _ _ us hl => match us, hl with | [_], _ => rfl) sc_ascends (fun cdv A outer s H E hr => ⟨_, (pms_one (pm_ret (pv_callB (cr_all rfl) fn_all (by rfl) T.b_all (by decide +kernel) (pl_cons (pv_lc (own := [("k", 1)]) rfl sc_ascends.nd resF_ok (pit_range1 (by rfl) T.b_range (pl_cons (pv_op op_sub fn_sub (pv_callB cr_len fn_len (by rfl) T.b_len (by decide +kernel) (pl_cons (pv_var (L2.pv 0)) pl_nil)) pv_int) pl_nil)) (blkOk_by (by kernel_rfl)) (by decide) (fun q => (pt_name sc_ascends.nd rfl (Or.inl rfl))) (fun q => ptst_nil) (fun q => (pv_cmp op_lt fn_lt (pv_ix ix_seq fn_ix (pv_var (L2.pv 0)) (pv_var (L2.pv 1))) (pv_ix ix_seq fn_ix (pv_var (L2.pv 0)) (pv_op op_addA fn_add (pv_var (L2.pv 1)) pv_int)) (by rfl)))) pl_nil))))⟩)
theorem sc_check_count : FnScope ["count"] ["count"] (defScope (top 9)) := ⟨rfl, rfl, rfl, by decide +kernel, rfl, by decide +kernel, by decide +kernel⟩
theorem ok_check_count {f : Addr} {fd : FuncData} (F : Fun K "check_count" "check_count" (top 9) f fd) (hx : mg "check_count" = some (.ref f)) (T : Txt K mg C) (h_is_integer : FnM P w K mg base C 1 "is_integer" 1 m_is_integer) : FnM P w K mg base C 2 "check_count" 1 m_check_count :=
  fnM_of (k := 1) (N := ["count"]) F hx (F.binds (ps := ["count"]) fun _ _ _ _ _ _ us hl => match us, hl with | [_], _ => rfl) sc_check_count (fun cdv A outer s H E hr => ⟨_, (pms_one (pm_if (PBW.pb (pbw_or (pb_not (pb_val (pv_call h_is_integer hr (by omega) (by rfl) tkF (pl_cons (pv_var (L2.pv 0)) pl_nil)))) (pbw_or1 (pb_cmp op_lt fn_lt (pv_var (L2.pv 0)) pv_int (by rfl))))) (pms_one (pm_raiseX (k := 0) rfl tkF T.x_InvalidNumber (by rfl))) pms_nil))⟩)
theorem sc_is_integer_clause : FnScope ["count", "value", "number"] ["count", "value"] (defScope (top 11)) := ⟨rfl, rfl, rfl, by decide +kernel, rfl, by decide +kernel, by decide +kernel⟩
theorem ok_is_integer_clause {f : Addr} {fd : FuncData} (F : Fun K "is_integer_clause" "is_integer_clause" (top 11) f fd) (hx : mg "is_integer_clause" = some (.ref f)) (T : Txt K mg C) (h_is_integer : FnM P w K mg base C 1 "is_integer" 1 m_is_integer) (h_ascends : FnM P w K mg base C 1 "ascends" 1 m_ascends) : FnM P w K mg base C 2 "is_integer_clause" 2 m_is_integer_clause :=
  fnM_of (k := 1) (N := ["count", "value", "number"]) F hx (F.binds (ps := ["count", "value"]) fun _ _ _ _ _ _ us hl => match us, hl with | [_, _], _ => rfl) sc_is_integer_clause (fun cdv A outer s H E hr => ⟨_, (pms_cons (pm_if (PBW.pb (pbw_or (pb_not (pb_val (pv_callB call_isi fn_isi (by rfl) T.b_isinstance (by decide +kernel) (pl_cons (pv_var (L2.pv 1)) (pl_cons (pv_type (by rfl) T.b_tuple (by decide +kernel)) pl_nil))))) (pbw_or1 (pb_not (pb_val (pv_callB (cr_all rfl) fn_all (by rfl) T.b_all (by decide +kernel) (pl_cons (pv_lc (own := [("number", 2)]) rfl sc_is_integer_clause.nd resF_ok (pit_seq (pv_var (L2.pv 1))) (blkOk_by (by kernel_rfl)) (by decide) (fun q => (pt_name sc_is_integer_clause.nd rfl (Or.inl rfl))) (fun q => ptst_nil) (fun q => (pv_call h_is_integer hr (by omega) (by rfl) takes0 (pl_cons (pv_var (L2.pv 2)) pl_nil)))) pl_nil))))))) (pms_one (pm_ret pv_bl)) pms_nil)
  (pms_cons (pm_if (PBW.pb (pbw_or (pb_not (pb_val (pv_callB (cr_all rfl) fn_all (by rfl) T.b_all (by decide +kernel) (pl_cons (pv_lc (own := [("number", 2)]) rfl sc_is_integer_clause.nd resF_ok (pit_seq (pv_var (L2.pv 1))) (blkOk_by (by kernel_rfl)) (by decide) (fun q => (pt_name sc_is_integer_clause.nd rfl (Or.inl rfl))) (fun q => ptst_nil) (fun q => (pv_and (pv_cmp (op_neM hr.units) fn_ne (pv_var (L2.pv 2)) pv_int (by rfl)) (pv_one (pv_chain op_le op_le fn_le fn_le (pv_un un_neg fn_neg (pv_var (L2.pv 0))) (pv_var (L2.pv 2)) (pv_var (L2.pv 0))))))) pl_nil)))) (pbw_or1 (pb_not (pb_val (pv_call h_ascends hr (by omega) (by rfl) tkF (pl_cons (pv_var (L2.pv 1)) pl_nil))))))) (pms_one (pm_ret pv_bl)) pms_nil)
  (pms_one (pm_ret (pv_cmp (op_eqM hr.units) fn_eq (pv_lenSet rfl (by rfl) T.b_set (by rfl) T.b_len (pv_lc (own := [("number", 2)]) rfl sc_is_integer_clause.nd resF_ok (pit_seq (pv_var (L2.pv 1))) (blkOk_by (by kernel_rfl)) (by decide) (fun q => (pt_name sc_is_integer_clause.nd rfl (Or.inl rfl))) (fun q => ptst_nil) (fun q => (pv_callB call_abs fn_abs (by rfl) T.b_abs (by decide +kernel) (pl_cons (pv_var (L2.pv 2)) pl_nil))))) (pv_callB cr_len fn_len (by rfl) T.b_len (by decide +kernel) (pl_cons (pv_var (L2.pv 1)) pl_nil)) (by rfl))))))⟩)
theorem sc_check_clauses : FnScope ["count", "clauses", "clause"] ["count", "clauses"] (defScope (top 13)) := ⟨rfl, rfl, rfl, by decide +kernel, rfl, by decide +kernel, by decide +kernel⟩
theorem ok_check_clauses {f : Addr} {fd : FuncData} (F : Fun K "check_clauses" "check_clauses" (top 13) f fd) (hx : mg "check_clauses" = some (.ref f)) (T : Txt K mg C) (h_check_count : FnM P w K mg base C 2 "check_count" 1 m_check_count) (h_is_integer_clause : FnM P w K mg base C 2 "is_integer_clause" 2 m_is_integer_clause) : FnM P w K mg base C 3 "check_clauses" 2 m_check_clauses :=
  fnM_of (k := 2) (N := ["count", "clauses", "clause"]) F hx (F.binds (ps := ["count", "clauses"]) fun _ _ _ _ _ _ us hl => match us, hl with | [_, _], _ => rfl) sc_check_clauses (fun cdv A outer s H E hr => ⟨_, (pms_cons (pm_expr (pv_call h_check_count hr (by omega) (by rfl) tkF (pl_cons (pv_var (L2.pv 0)) pl_nil)))
  (pms_one (pm_if (PBW.pb (pbw_or (pb_not (pb_val (pv_callB call_isi fn_isi (by rfl) T.b_isinstance (by decide +kernel) (pl_cons (pv_var (L2.pv 1)) (pl_cons (pv_type (by rfl) T.b_tuple (by decide +kernel)) pl_nil))))) (pbw_or1 (pb_not (pb_val (pv_callB (cr_all rfl) fn_all (by rfl) T.b_all (by decide +kernel) (pl_cons (pv_lc (own := [("clause", 2)]) rfl sc_check_clauses.nd resF_ok (pit_seq (pv_var (L2.pv 1))) (blkOk_by (by kernel_rfl)) (by decide) (fun q => (pt_name sc_check_clauses.nd rfl (Or.inl rfl))) (fun q => ptst_nil) (fun q => (pv_call h_is_integer_clause hr (by omega) (by rfl) takes0 (pl_cons (pv_var (L2.pv 0)) (pl_cons (pv_var (L2.pv 2)) pl_nil))))) pl_nil))))))) (pms_one (pm_raiseX (k := 1) rfl tkF T.x_InvalidClauses (by rfl))) pms_nil)))⟩)
theorem sc_check_literals : FnScope ["count", "literals"] ["count", "literals"] (defScope (top 15)) := ⟨rfl, rfl, rfl, by decide +kernel, rfl, by decide +kernel, by decide +kernel⟩
theorem ok_check_literals {f : Addr} {fd : FuncData} (F : Fun K "check_literals" "check_literals" (top 15) f fd) (hx : mg "check_literals" = some (.ref f)) (T : Txt K mg C) (h_is_integer_clause : FnM P w K mg base C 2 "is_integer_clause" 2 m_is_integer_clause) : FnM P w K mg base C 3 "check_literals" 2 m_check_literals :=
  fnM_of (k := 2) (N := ["count", "literals"]) F hx (F.binds (ps := ["count", "literals"]) fun _ _ _ _ _ _ us hl => match us, hl with | [_, _], _ => rfl) sc_check_literals (fun cdv A outer s H E hr => ⟨_, (pms_one (pm_if (pb_not (pb_val (pv_call h_is_integer_clause hr (by omega) (by rfl) tkF (pl_cons (pv_var (L2.pv 0)) (pl_cons (pv_var (L2.pv 1)) pl_nil))))) (pms_one (pm_raiseX (k := 2) rfl tkF T.x_InvalidLiterals (by rfl))) pms_nil))⟩)
theorem sc_forced_once : FnScope ["clauses", "known", "found", "clause", "left", "literal"] ["clauses", "known"] (defScope (top 16)) := ⟨rfl, rfl, rfl, by decide +kernel, rfl, by decide +kernel, by decide +kernel⟩
theorem ok_forced_once {f : Addr} {fd : FuncData} (F : Fun K "forced_once" "forced_once" (top 16) f fd) (hx : mg "forced_once" = some (.ref f)) (T : Txt K mg C)  : FnM P w K mg base C 1 "forced_once" 2 m_forced_once :=
  fnM_of (k := 0) (N := ["clauses", "known", "found", "clause", "left", "literal"]) F hx (F.binds (ps := ["clauses", "known"]) fun _ _ _ _ _ _ us hl => match us, hl with | [_, _], _ => rfl) sc_forced_once (fun cdv A outer s H E hr => ⟨_, (pms_cons (pm_set (i := 2) sc_forced_once.nd rfl (Or.inl rfl) (pv_own pl_nil))
  (pms_cons (pm_for psF rfl (pit_seq (pv_var (L2.pv 0))) (pt_name sc_forced_once.nd rfl (Or.inl rfl))
  (pms_cons (pm_setLc (i := 4) (own := [("literal", 5)]) rfl sc_forced_once.nd rfl rfl (sw_true rfl rfl (by rfl) (by rfl)) resF_ok (pit_seq (pv_var (L2.pv 3))) (blkOk_by (by kernel_rfl)) (by decide) (fun q => (pt_name sc_forced_once.nd rfl (Or.inl rfl))) (fun q => (ptst_one (pb_dnin (Mir.Room.u1 hr) (pv_un un_neg fn_neg (pv_var (L2.pv 5))) (pv_var (L2.pv 1))))) (fun q => (pv_var (L2.pv 5))))
  (pms_cons (pm_if (pb_cmp (op_eqM hr.units) fn_eq (pv_var (L2.pv 4)) (pv_lst pl_nil) (by rfl)) (pms_one (pm_ret pv_non)) pms_nil)
  (pms_one (pm_if (PBW.pb (pbw_and (pb_cmp (op_eqM hr.units) fn_eq (pv_callB cr_len fn_len (by rfl) T.b_len (by decide +kernel) (pl_cons (pv_var (L2.pv 4)) pl_nil)) pv_int (by rfl)) (pbw_and1 (pb_dnin (Mir.Room.u1 hr) (pv_ix ix_seq fn_ix (pv_var (L2.pv 4)) pv_int) (pv_var (L2.pv 1)))))) (pms_one (pm_expr (pv_mtL PySem.F.slot_list_append PySem.F.type_list_append mt_append fn_app (pv_var (L2.pv 2)) (pl_cons (pv_ix ix_seq fn_ix (pv_var (L2.pv 4)) pv_int) pl_nil)))) pms_nil)))))
  (pms_one (pm_ret (pv_var (L2.pv 2))))))⟩)
theorem sc_closed : FnScope ["clauses", "literals", "known", "more", "literal"] ["clauses", "literals"] (defScope (top 17)) := ⟨rfl, rfl, rfl, by decide +kernel, rfl, by decide +kernel, by decide +kernel⟩
theorem ok_closed {f : Addr} {fd : FuncData} (F : Fun K "closed" "closed" (top 17) f fd) (hx : mg "closed" = some (.ref f)) (T : Txt K mg C) (h_forced_once : FnM P w K mg base C 1 "forced_once" 2 m_forced_once) : FnM P w K mg base C 2 "closed" 2 m_closed :=
  fnM_of (k := 1) (N := ["clauses", "literals", "known", "more", "literal"]) F hx (F.binds (ps := ["clauses", "literals"]) fun _ _ _ _ _ _ us hl => match us, hl with | [_, _], _ => rfl) sc_closed (fun cdv A outer s H E hr => ⟨_, (pms_cons (pm_set (i := 2) sc_closed.nd rfl (Or.inr rfl) (pv_dcO (own := [("literal", 4)]) rfl sc_closed.nd (pit_seq (pv_var (L2.pv 1))) (blkOk_by (by kernel_rfl)) (by decide) (fun q => (pt_name sc_closed.nd rfl (Or.inl rfl))) (fun q => ptst_nil) (fun q => (pv_var (L2.pv 4))) (fun q => pv_bl)))
  (pms_cons (pm_set (i := 3) sc_closed.nd rfl (Or.inl rfl) (pv_call h_forced_once hr (by omega) (by rfl) tkF (pl_cons (pv_var (L2.pv 0)) (pl_cons (pv_var (L2.pv 2)) pl_nil))))
  (pms_cons (pm_while psF (PBW.pb (pbw_and (pb_notN (pv_var (L2.pv 3))) (pbw_and1 (pb_cmp (op_neM hr.units) fn_ne (pv_var (L2.pv 3)) (pv_lst pl_nil) (by rfl)))))
  (pms_cons (pm_expr (pv_mtD PySem.F.slot_dict_update PySem.F.type_dict_update mt_upd fn_upd (pv_var (L2.pv 2)) (pl_cons (pv_dc (own := [("literal", 4)]) rfl sc_closed.nd (pit_seq (pv_var (L2.pv 3))) (blkOk_by (by kernel_rfl)) (by decide) (fun q => (pt_name sc_closed.nd rfl (Or.inl rfl))) (fun q => ptst_nil) (fun q => (pv_var (L2.pv 4))) (fun q => pv_bl)) pl_nil)))
  (pms_cons (pm_if (pb_val (pv_callB (cr_any rfl) fn_any (by rfl) T.b_any (by decide +kernel) (pl_cons (pv_lc (own := [("literal", 4)]) rfl sc_closed.nd resF_ok (pit_seq (pv_var (L2.pv 3))) (blkOk_by (by kernel_rfl)) (by decide) (fun q => (pt_name sc_closed.nd rfl (Or.inl rfl))) (fun q => ptst_nil) (fun q => (pv_din (Mir.Room.u1 hr) (pv_un un_neg fn_neg (pv_var (L2.pv 4))) (pv_var (L2.pv 2))))) pl_nil))) (pms_one (pm_ret pv_non)) pms_nil)
  (pms_one (pm_set (i := 3) sc_closed.nd rfl (Or.inl rfl) (pv_call h_forced_once hr (by omega) (by rfl) tkF (pl_cons (pv_var (L2.pv 0)) (pl_cons (pv_var (L2.pv 2)) pl_nil))))))))
  (pms_one (pm_ret (pv_ifExp (pb_isN (pv_var (L2.pv 3))) pv_non (pv_var (L2.pv 2))))))))⟩)
theorem sc_forced : FnScope ["count", "clauses", "literals", "found"] ["count", "clauses", "literals"] (defScope (top 18)) := ⟨rfl, rfl, rfl, by decide +kernel, rfl, by decide +kernel, by decide +kernel⟩
theorem ok_forced {f : Addr} {fd : FuncData} (F : Fun K "forced" "forced" (top 18) f fd) (hx : mg "forced" = some (.ref f)) (T : Txt K mg C) (h_check_clauses : FnM P w K mg base C 3 "check_clauses" 2 m_check_clauses) (h_check_literals : FnM P w K mg base C 3 "check_literals" 2 m_check_literals) (h_closed : FnM P w K mg base C 2 "closed" 2 m_closed) : FnM P w K mg base C 4 "forced" 3 m_forced :=
  fnM_of (k := 3) (N := ["count", "clauses", "literals", "found"]) F hx (F.binds (ps := ["count", "clauses", "literals"]) fun _ _ _ _ _ _ us hl => match us, hl with | [_, _, _], _ => rfl) sc_forced (fun cdv A outer s H E hr => ⟨_, (pms_cons (pm_expr (pv_call h_check_clauses hr (by omega) (by rfl) tkF (pl_cons (pv_var (L2.pv 0)) (pl_cons (pv_var (L2.pv 1)) pl_nil))))
  (pms_cons (pm_expr (pv_call h_check_literals hr (by omega) (by rfl) tkF (pl_cons (pv_var (L2.pv 0)) (pl_cons (pv_var (L2.pv 2)) pl_nil))))
  (pms_cons (pm_set (i := 3) sc_forced.nd rfl (Or.inl rfl) (pv_call h_closed hr (by omega) (by rfl) tkF (pl_cons (pv_var (L2.pv 1)) (pl_cons (pv_var (L2.pv 2)) pl_nil))))
  (pms_one (pm_ret (pv_ifExp (pb_isN (pv_var (L2.pv 3))) pv_non (pv_callTy call_tuple_of fn_tuple (by rfl) T.b_tuple (by decide +kernel) (pl_cons (pv_callB (cr_sortedDI rfl) fn_sortedD (by rfl) T.b_sorted (by decide +kernel) (pl_cons (pv_var (L2.pv 3)) pl_nil)) pl_nil))))))))⟩)
theorem sc_probes : FnScope ["count", "clauses", "literals", "literal"] ["count", "clauses"] (defScope (top 19)) := ⟨rfl, rfl, rfl, by decide +kernel, rfl, by decide +kernel, by decide +kernel⟩
theorem ok_probes {f : Addr} {fd : FuncData} (F : Fun K "probes" "probes" (top 19) f fd) (hx : mg "probes" = some (.ref f)) (T : Txt K mg C) (h_check_clauses : FnM P w K mg base C 3 "check_clauses" 2 m_check_clauses) (h_closed : FnM P w K mg base C 2 "closed" 2 m_closed) : FnM P w K mg base C 4 "probes" 2 m_probes :=
  fnM_of (k := 3) (N := ["count", "clauses", "literals", "literal"]) F hx (F.binds (ps := ["count", "clauses"]) fun _ _ _ _ _ _ us hl => match us, hl with | [_, _], _ => rfl) sc_probes (fun cdv A outer s H E hr => ⟨_, (pms_cons (pm_expr (pv_call h_check_clauses hr (by omega) (by rfl) tkF (pl_cons (pv_var (L2.pv 0)) (pl_cons (pv_var (L2.pv 1)) pl_nil))))
  (pms_cons (pm_setLc (i := 2) (own := [("literal", 3)]) rfl sc_probes.nd rfl rfl (sw_true rfl rfl (by rfl) (by rfl)) resF_ok (pit_range2 (by rfl) T.b_range (pl_cons (pv_un un_neg fn_neg (pv_var (L2.pv 0))) (pl_cons (pv_op op_addA fn_add (pv_var (L2.pv 0)) pv_int) pl_nil))) (blkOk_by (by kernel_rfl)) (by decide) (fun q => (pt_name sc_probes.nd rfl (Or.inl rfl))) (fun q => (ptst_one (pb_cmp (op_neM hr.units) fn_ne (pv_var (L2.pv 3)) pv_int (by rfl)))) (fun q => (pv_var (L2.pv 3))))
  (pms_one (pm_ret (pv_callTy call_tuple_of fn_tuple (by rfl) T.b_tuple (by decide +kernel) (pl_cons (pv_lc (own := [("literal", 3)]) rfl sc_probes.nd resF_ok (pit_seq (pv_var (L2.pv 2))) (blkOk_by (by kernel_rfl)) (by decide) (fun q => (pt_name sc_probes.nd rfl (Or.inl rfl))) (fun q => (ptst_one (pb_isN (pv_call h_closed hr (by omega) (by rfl) takes0 (pl_cons (pv_var (L2.pv 1)) (pl_cons (pv_tup (pl_cons (pv_un un_neg fn_neg (pv_var (L2.pv 3))) pl_nil)) pl_nil)))))) (fun q => (pv_var (L2.pv 3)))) pl_nil))))))⟩)
theorem sc_is_settled : FnScope ["count", "clauses", "literals", "found", "clause", "literal"] ["count", "clauses", "literals"] (defScope (top 20)) := ⟨rfl, rfl, rfl, by decide +kernel, rfl, by decide +kernel, by decide +kernel⟩
theorem ok_is_settled {f : Addr} {fd : FuncData} (F : Fun K "is_settled" "is_settled" (top 20) f fd) (hx : mg "is_settled" = some (.ref f)) (T : Txt K mg C) (h_check_clauses : FnM P w K mg base C 3 "check_clauses" 2 m_check_clauses) (h_check_literals : FnM P w K mg base C 3 "check_literals" 2 m_check_literals) (h_closed : FnM P w K mg base C 2 "closed" 2 m_closed) : FnM P w K mg base C 4 "is_settled" 3 m_is_settled :=
  fnM_of (k := 3) (N := ["count", "clauses", "literals", "found", "clause", "literal"]) F hx (F.binds (ps := ["count", "clauses", "literals"]) fun _ _ _ _ _ _ us hl => match us, hl with | [_, _, _], _ => rfl) sc_is_settled (fun cdv A outer s H E hr => ⟨_, (pms_cons (pm_expr (pv_call h_check_clauses hr (by omega) (by rfl) tkF (pl_cons (pv_var (L2.pv 0)) (pl_cons (pv_var (L2.pv 1)) pl_nil))))
  (pms_cons (pm_expr (pv_call h_check_literals hr (by omega) (by rfl) tkF (pl_cons (pv_var (L2.pv 0)) (pl_cons (pv_var (L2.pv 2)) pl_nil))))
  (pms_cons (pm_set (i := 3) sc_is_settled.nd rfl (Or.inr rfl) (pv_call h_closed hr (by omega) (by rfl) tkF (pl_cons (pv_var (L2.pv 1)) (pl_cons (pv_var (L2.pv 2)) pl_nil))))
  (pms_cons (pm_if (pb_isN (pv_var (L2.pv 3))) (pms_one (pm_ret pv_bl)) pms_nil)
  (pms_one (pm_ret (pv_callB (cr_all rfl) fn_all (by rfl) T.b_all (by decide +kernel) (pl_cons (pv_lc (own := [("clause", 4)]) rfl sc_is_settled.nd resF_ok (pit_seq (pv_var (L2.pv 1))) (blkOk_by (by kernel_rfl)) (by decide) (fun q => (pt_name sc_is_settled.nd rfl (Or.inl rfl))) (fun q => ptst_nil) (fun q => by exact (pv_callB (cr_any rfl) fn_any (by rfl) T.b_any (by decide +kernel) (pl_cons (by exact (pv_lc (own := [("literal", 5)]) (wi := iSeq K _) rfl sc_is_settled.nd resF_ok (pit_seq (pv_var (L2.pv 4))) (blkOk_by (by kernel_rfl)) (by decide) (fun q => (pt_name sc_is_settled.nd rfl (Or.inl rfl))) (fun q => ptst_nil) (fun q => (pv_din (Mir.Room.u1 hr) (pv_var (L2.pv 5)) (pv_var (L2.pv 3)))))) pl_nil)))) pl_nil))))))))⟩)
theorem sc__law_deck : FnScope ["cell"] ["cell"] (defScope (top 22)) := ⟨rfl, rfl, rfl, by decide +kernel, rfl, by decide +kernel, by decide +kernel⟩
theorem ok__law_deck {f : Addr} {fd : FuncData} (F : Fun K "_law_deck" "_law_deck" (top 22) f fd) (hx : mg "_law_deck" = some (.ref f)) (T : Txt K mg C)  : FnM P w K mg base C 1 "_law_deck" 1 m__law_deck :=
  fnM_of (k := 0) (N := ["cell"]) F hx (F.binds (ps := ["cell"]) fun _ _ _ _ _ _ us hl => match us, hl with | [_], _ => rfl) sc__law_deck (fun cdv A outer s H E hr => ⟨_, (pms_cons (pm_set (i := 0) sc__law_deck.nd rfl (Or.inl rfl) (pv_callTy call_int1 fn_int1 (by rfl) T.b_int (by decide +kernel) (pl_cons (pv_var (L2.pv 0)) pl_nil)))
  (pms_one (pm_ret (pv_own (pl_cons (pv_callB (call_max2 rfl) fn_max2 (by rfl) T.b_max (by decide +kernel) (pl_cons pv_int (pl_cons (pv_op op_sub fn_sub (pv_var (L2.pv 0)) (pv_op op_pow fn_pow pv_int pv_int)) pl_nil))) (pl_cons (pv_op op_modN fn_mod (pv_callTy call_int1 fn_int1 (by rfl) T.b_int (by decide +kernel) (pl_cons (pv_op op_addA fn_add (pv_op op_mul fn_mul (pv_var (L2.pv 0)) pv_int) pv_int) pl_nil)) pv_int) pl_nil))))))⟩)
theorem sc__law_draw : FnScope ["deck", "many", "found"] ["deck", "many"] (defScope (top 23)) := ⟨rfl, rfl, rfl, by decide +kernel, rfl, by decide +kernel, by decide +kernel⟩
theorem ok__law_draw {f : Addr} {fd : FuncData} (F : Fun K "_law_draw" "_law_draw" (top 23) f fd) (hx : mg "_law_draw" = some (.ref f)) (T : Txt K mg C)  : FnM P w K mg base C 1 "_law_draw" 2 m__law_draw :=
  fnM_of (k := 0) (N := ["deck", "many", "found"]) F hx (F.binds (ps := ["deck", "many"]) fun _ _ _ _ _ _ us hl => match us, hl with | [_, _], _ => rfl) sc__law_draw (fun cdv A outer s H E hr => ⟨_, (pms_cons (pm_if (pb_cmp op_gt fn_gt (pv_ix ix_seq fn_ix (pv_var (L2.pv 0)) pv_int) pv_int (by rfl)) (pms_cons (pm_set (i := 2) sc__law_draw.nd rfl (Or.inl rfl) (pv_op op_modN fn_mod (pv_callTy call_int1 fn_int1 (by rfl) T.b_int (by decide +kernel) (pl_cons (pv_ix ix_seq fn_ix (pv_var (L2.pv 0)) pv_int) pl_nil)) (pv_var (L2.pv 1))))
  (pms_cons (pm_sub (pv_op op_fdivN fn_fdiv (pv_callTy call_int1 fn_int1 (by rfl) T.b_int (by decide +kernel) (pl_cons (pv_ix ix_seq fn_ix (pv_var (L2.pv 0)) pv_int) pl_nil)) (pv_var (L2.pv 1))) (pv_var (L2.pv 0)) pv_int set_list fn_set)
  (pms_one (pm_ret (pv_var (L2.pv 2)))))) pms_nil)
  (pms_cons (pm_sub (pv_op op_modN fn_mod (pv_callTy call_int1 fn_int1 (by rfl) T.b_int (by decide +kernel) (pl_cons (pv_op op_addA fn_add (pv_op op_mul fn_mul (pv_ix ix_seq fn_ix (pv_var (L2.pv 0)) pv_int) pv_int) pv_int) pl_nil)) pv_int) (pv_var (L2.pv 0)) pv_int set_list fn_set)
  (pms_one (pm_ret (pv_op op_modN fn_mod (pv_op op_fdivN fn_fdiv (pv_callTy call_int1 fn_int1 (by rfl) T.b_int (by decide +kernel) (pl_cons (pv_ix ix_seq fn_ix (pv_var (L2.pv 0)) pv_int) pl_nil)) pv_int) (pv_var (L2.pv 1)))))))⟩)
theorem sc__law_pick : FnScope ["deck", "row"] ["deck", "row"] (defScope (top 24)) := ⟨rfl, rfl, rfl, by decide +kernel, rfl, by decide +kernel, by decide +kernel⟩
theorem ok__law_pick {f : Addr} {fd : FuncData} (F : Fun K "_law_pick" "_law_pick" (top 24) f fd) (hx : mg "_law_pick" = some (.ref f)) (T : Txt K mg C) (h__law_draw : FnM P w K mg base C 1 "_law_draw" 2 m__law_draw) : FnM P w K mg base C 2 "_law_pick" 2 m__law_pick :=
  fnM_of (k := 1) (N := ["deck", "row"]) F hx (F.binds (ps := ["deck", "row"]) fun _ _ _ _ _ _ us hl => match us, hl with | [_, _], _ => rfl) sc__law_pick (fun cdv A outer s H E hr => ⟨_, (pms_one (pm_ret (pv_ix ix_seq fn_ix (pv_var (L2.pv 1)) (pv_call h__law_draw hr (by omega) (by rfl) tkF (pl_cons (pv_var (L2.pv 0)) (pl_cons (pv_callB cr_len fn_len (by rfl) T.b_len (by decide +kernel) (pl_cons (pv_var (L2.pv 1)) pl_nil)) pl_nil))))))⟩)
theorem sc__law_same : FnScope ["found", "due", "k"] ["found", "due"] (defScope (top 25)) := ⟨rfl, rfl, rfl, by decide +kernel, rfl, by decide +kernel, by decide +kernel⟩
theorem ok__law_same {f : Addr} {fd : FuncData} (F : Fun K "_law_same" "_law_same" (top 25) f fd) (hx : mg "_law_same" = some (.ref f)) (T : Txt K mg C)  : ∀ n, FnM P w K mg base C (0 + n) "_law_same" 2 (m__law_same n)
  | 0 => fnM_zero (ps := ["found", "due"]) hx F.kp (F.binds (ps := ["found", "due"]) fun _ _ _ _ _ _ us hl => match us, hl with | [_, _], _ => rfl)
  | n + 1 => by
    have ih := ok__law_same F hx T  n
    exact fnM_of (k := 0 + n) (N := ["found", "due", "k"]) F hx (F.binds (ps := ["found", "due"]) fun _ _ _ _ _ _ us hl => match us, hl with | [_, _], _ => rfl) sc__law_same (fun cdv A outer s H E hr => ⟨_, (pms_cons (pm_if (pb_val (pv_callB call_isiT fn_isi2 (by rfl) T.b_isinstance (by decide +kernel) (pl_cons (pv_var (L2.pv 1)) (pl_cons (pv_tup (pl_cons (pv_type (by rfl) T.b_tuple (by decide +kernel)) (pl_cons (pv_type (by rfl) T.b_list (by decide +kernel)) pl_nil))) pl_nil)))) (pms_cons (pm_if (PBW.pb (pbw_or (pb_cmp (op_neM hr.units) fn_ne (pv_callB call_isi fn_isi (by rfl) T.b_isinstance (by decide +kernel) (pl_cons (pv_var (L2.pv 1)) (pl_cons (pv_type (by rfl) T.b_tuple (by decide +kernel)) pl_nil))) (pv_callB call_isi fn_isi (by rfl) T.b_isinstance (by decide +kernel) (pl_cons (pv_var (L2.pv 0)) (pl_cons (pv_type (by rfl) T.b_tuple (by decide +kernel)) pl_nil))) (by rfl)) (pbw_or1 (pb_cmp (op_neM hr.units) fn_ne (pv_callB call_isi fn_isi (by rfl) T.b_isinstance (by decide +kernel) (pl_cons (pv_var (L2.pv 1)) (pl_cons (pv_type (by rfl) T.b_list (by decide +kernel)) pl_nil))) (pv_callB call_isi fn_isi (by rfl) T.b_isinstance (by decide +kernel) (pl_cons (pv_var (L2.pv 0)) (pl_cons (pv_type (by rfl) T.b_list (by decide +kernel)) pl_nil))) (by rfl))))) (pms_one (pm_ret pv_bl)) pms_nil)
  (pms_one (pm_ret (pv_and (pv_cmp (op_eqM hr.units) fn_eq (pv_callB cr_len fn_len (by rfl) T.b_len (by decide +kernel) (pl_cons (pv_var (L2.pv 0)) pl_nil)) (pv_callB cr_len fn_len (by rfl) T.b_len (by decide +kernel) (pl_cons (pv_var (L2.pv 1)) pl_nil)) (by rfl)) (pv_one (pv_callB (cr_all rfl) fn_all (by rfl) T.b_all (by decide +kernel) (pl_cons (pv_lc (own := [("k", 2)]) rfl sc__law_same.nd resF_ok (pit_range1 (by rfl) T.b_range (pl_cons (pv_callB cr_len fn_len (by rfl) T.b_len (by decide +kernel) (pl_cons (pv_var (L2.pv 1)) pl_nil)) pl_nil)) (blkOk_by (by kernel_rfl)) (by decide) (fun q => (pt_name sc__law_same.nd rfl (Or.inl rfl))) (fun q => ptst_nil) (fun q => (pv_call ih hr (by omega) (by rfl) takes0 (pl_cons (pv_ix ix_seq fn_ix (pv_var (L2.pv 0)) (pv_var (L2.pv 2))) (pl_cons (pv_ix ix_seq fn_ix (pv_var (L2.pv 1)) (pv_var (L2.pv 2))) pl_nil))))) pl_nil))))))) pms_nil)
  (pms_cons (pm_if (pb_isN (pv_var (L2.pv 1))) (pms_one (pm_ret (pv_isN (pv_var (L2.pv 0))))) pms_nil)
  (pms_cons (pm_if (pb_val (pv_callB call_isi fn_isi (by rfl) T.b_isinstance (by decide +kernel) (pl_cons (pv_var (L2.pv 1)) (pl_cons (pv_type (by rfl) T.b_bool (by decide +kernel)) pl_nil)))) (pms_one (pm_ret (pv_and (pv_callB call_isi fn_isi (by rfl) T.b_isinstance (by decide +kernel) (pl_cons (pv_var (L2.pv 0)) (pl_cons (pv_type (by rfl) T.b_bool (by decide +kernel)) pl_nil))) (pv_one (pv_cmp (op_eqM hr.units) fn_eq (pv_var (L2.pv 0)) (pv_var (L2.pv 1)) (by rfl)))))) pms_nil)
  (pms_cons (pm_if (pb_val (pv_callB call_isi fn_isi (by rfl) T.b_isinstance (by decide +kernel) (pl_cons (pv_var (L2.pv 1)) (pl_cons (pv_type (by rfl) T.b_int (by decide +kernel)) pl_nil)))) (pms_one (pm_ret (pv_and (pv_callB call_isi fn_isi (by rfl) T.b_isinstance (by decide +kernel) (pl_cons (pv_var (L2.pv 0)) (pl_cons (pv_type (by rfl) T.b_int (by decide +kernel)) pl_nil))) (pv_and (pv_not (pv_callB call_isi fn_isi (by rfl) T.b_isinstance (by decide +kernel) (pl_cons (pv_var (L2.pv 0)) (pl_cons (pv_type (by rfl) T.b_bool (by decide +kernel)) pl_nil)))) (pv_one (pv_cmp (op_eqM hr.units) fn_eq (pv_var (L2.pv 0)) (pv_var (L2.pv 1)) (by rfl))))))) pms_nil)
  (pms_one (pm_ret (pv_and (pv_callB call_isi fn_isi (by rfl) T.b_isinstance (by decide +kernel) (pl_cons (pv_var (L2.pv 0)) (pl_cons (pv_type (by rfl) T.b_str (by decide +kernel)) pl_nil))) (pv_one (pv_cmp (op_eqM hr.units) fn_eq (pv_var (L2.pv 0)) (pv_var (L2.pv 1)) (by rfl))))))))))⟩)
theorem sc__law_int : FnScope ["value"] ["value"] (defScope (top 26)) := ⟨rfl, rfl, rfl, by decide +kernel, rfl, by decide +kernel, by decide +kernel⟩
theorem ok__law_int {f : Addr} {fd : FuncData} (F : Fun K "_law_int" "_law_int" (top 26) f fd) (hx : mg "_law_int" = some (.ref f)) (T : Txt K mg C)  : FnM P w K mg base C 1 "_law_int" 1 m__law_int :=
  fnM_of (k := 0) (N := ["value"]) F hx (F.binds (ps := ["value"]) fun _ _ _ _ _ _ us hl => match us, hl with | [_], _ => rfl) sc__law_int (fun cdv A outer s H E hr => ⟨_, (pms_one (pm_ret (pv_and (pv_callB call_isi fn_isi (by rfl) T.b_isinstance (by decide +kernel) (pl_cons (pv_var (L2.pv 0)) (pl_cons (pv_type (by rfl) T.b_int (by decide +kernel)) pl_nil))) (pv_one (pv_not (pv_callB call_isi fn_isi (by rfl) T.b_isinstance (by decide +kernel) (pl_cons (pv_var (L2.pv 0)) (pl_cons (pv_type (by rfl) T.b_bool (by decide +kernel)) pl_nil))))))))⟩)
theorem sc__law_bent : FnScope ["deck", "value", "k", "way", "inner"] ["deck", "value"] (defScope (top 27)) := ⟨rfl, rfl, rfl, by decide +kernel, rfl, by decide +kernel, by decide +kernel⟩
theorem ok__law_bent {f : Addr} {fd : FuncData} (F : Fun K "_law_bent" "_law_bent" (top 27) f fd) (hx : mg "_law_bent" = some (.ref f)) (T : Txt K mg C) (h__law_draw : FnM P w K mg base C 1 "_law_draw" 2 m__law_draw) : ∀ n, FnM P w K mg base C (1 + n) "_law_bent" 2 (m__law_bent n)
  | 0 => fnM_zero (ps := ["deck", "value"]) hx F.kp (F.binds (ps := ["deck", "value"]) fun _ _ _ _ _ _ us hl => match us, hl with | [_, _], _ => rfl)
  | n + 1 => by
    have ih := ok__law_bent F hx T h__law_draw n
    exact fnM_of (k := 1 + n) (N := ["deck", "value", "k", "way", "inner"]) F hx (F.binds (ps := ["deck", "value"]) fun _ _ _ _ _ _ us hl => match us, hl with | [_, _], _ => rfl) sc__law_bent (fun cdv A outer s H E hr => ⟨_, (pms_cons (pm_if (PBW.pb (pbw_and (pb_val (pv_callB call_isi fn_isi (by rfl) T.b_isinstance (by decide +kernel) (pl_cons (pv_var (L2.pv 1)) (pl_cons (pv_type (by rfl) T.b_tuple (by decide +kernel)) pl_nil)))) (pbw_and (pb_cmp (op_neM hr.units) fn_ne (pv_var (L2.pv 1)) (pv_tup pl_nil) (by rfl)) (pbw_and1 (pb_cmp op_gt fn_gt (pv_call h__law_draw hr (by omega) (by rfl) tkF (pl_cons (pv_var (L2.pv 0)) (pl_cons pv_int pl_nil))) pv_int (by rfl)))))) (pms_cons (pm_set (i := 2) sc__law_bent.nd rfl (Or.inl rfl) (pv_call h__law_draw hr (by omega) (by rfl) tkF (pl_cons (pv_var (L2.pv 0)) (pl_cons (pv_callB cr_len fn_len (by rfl) T.b_len (by decide +kernel) (pl_cons (pv_var (L2.pv 1)) pl_nil)) pl_nil))))
  (pms_cons (pm_set (i := 3) sc__law_bent.nd rfl (Or.inl rfl) (pv_call h__law_draw hr (by omega) (by rfl) tkF (pl_cons (pv_var (L2.pv 0)) (pl_cons pv_int pl_nil))))
  (pms_cons (pm_if (pb_cmp (op_eqM hr.units) fn_eq (pv_var (L2.pv 3)) pv_int (by rfl)) (pms_one (pm_ret (pv_op op_addA fn_add (pv_slice sl_any fn_sl (pv_var (L2.pv 1)) pvo_none (pvo_some (pv_var (L2.pv 2)))) (pv_slice sl_any fn_sl (pv_var (L2.pv 1)) (pvo_some (pv_op op_addA fn_add (pv_var (L2.pv 2)) pv_int)) pvo_none)))) pms_nil)
  (pms_cons (pm_if (pb_cmp (op_eqM hr.units) fn_eq (pv_var (L2.pv 3)) pv_int (by rfl)) (pms_one (pm_ret (pv_op op_addA fn_add (pv_op op_addA fn_add (pv_slice sl_any fn_sl (pv_var (L2.pv 1)) pvo_none (pvo_some (pv_var (L2.pv 2)))) (pv_tup (pl_cons (pv_ix ix_seq fn_ix (pv_var (L2.pv 1)) (pv_var (L2.pv 2))) (pl_cons (pv_ix ix_seq fn_ix (pv_var (L2.pv 1)) (pv_var (L2.pv 2))) pl_nil)))) (pv_slice sl_any fn_sl (pv_var (L2.pv 1)) (pvo_some (pv_op op_addA fn_add (pv_var (L2.pv 2)) pv_int)) pvo_none)))) pms_nil)
  (pms_cons (pm_if (pb_cmp (op_eqM hr.units) fn_eq (pv_var (L2.pv 3)) pv_int (by rfl)) (pms_one (pm_ret (pv_op op_addA fn_add (pv_slice sl_any fn_sl (pv_var (L2.pv 1)) pvo_none (pvo_some (pv_var (L2.pv 2)))) (pv_back (pv_slice sl_any fn_sl (pv_var (L2.pv 1)) (pvo_some (pv_var (L2.pv 2))) pvo_none))))) pms_nil)
  (pms_one (pm_ret (pv_op op_addA fn_add (pv_op op_addA fn_add (pv_slice sl_any fn_sl (pv_var (L2.pv 1)) pvo_none (pvo_some (pv_var (L2.pv 2)))) (pv_tup (pl_cons (pv_call ih hr (by omega) (by rfl) tkF (pl_cons (pv_var (L2.pv 0)) (pl_cons (pv_ix ix_seq fn_ix (pv_var (L2.pv 1)) (pv_var (L2.pv 2))) pl_nil))) pl_nil) (by simp only [List.length_cons, List.length_nil]; decide))) (pv_slice sl_any fn_sl (pv_var (L2.pv 1)) (pvo_some (pv_op op_addA fn_add (pv_var (L2.pv 2)) pv_int)) pvo_none))))))))) pms_nil)
  (pms_cons (pm_if (PBW.pb (pbw_and (pb_val (pv_callB call_isi fn_isi (by rfl) T.b_isinstance (by decide +kernel) (pl_cons (pv_var (L2.pv 1)) (pl_cons (pv_type (by rfl) T.b_int (by decide +kernel)) pl_nil)))) (pbw_and (pb_not (pb_val (pv_callB call_isi fn_isi (by rfl) T.b_isinstance (by decide +kernel) (pl_cons (pv_var (L2.pv 1)) (pl_cons (pv_type (by rfl) T.b_bool (by decide +kernel)) pl_nil))))) (pbw_and1 (pb_cmp op_gt fn_gt (pv_call h__law_draw hr (by omega) (by rfl) tkF (pl_cons (pv_var (L2.pv 0)) (pl_cons pv_int pl_nil))) pv_int (by rfl)))))) (pms_one (pm_ret (pv_op op_addA fn_add (pv_var (L2.pv 1)) (pv_ix ix_seq fn_ix (pv_lst (pl_cons pv_int (pl_cons (pv_un un_neg fn_neg pv_int) (pl_cons pv_int (pl_cons (pv_un un_neg fn_neg (pv_var (L2.pv 1))) (pl_cons (pv_op op_pow fn_pow pv_int pv_int) (pl_cons (pv_un un_neg fn_neg pv_int) pl_nil))))))) (pv_call h__law_draw hr (by omega) (by rfl) tkF (pl_cons (pv_var (L2.pv 0)) (pl_cons pv_int pl_nil))))))) pms_nil)
  (pms_cons (pm_set (i := 4) sc__law_bent.nd rfl (Or.inl rfl) (pv_ifExp (pb_val (pv_callB call_isi fn_isi (by rfl) T.b_isinstance (by decide +kernel) (pl_cons (pv_var (L2.pv 1)) (pl_cons (pv_type (by rfl) T.b_tuple (by decide +kernel)) pl_nil)))) (pv_callTy call_list_of fn_list (by rfl) T.b_list (by decide +kernel) (pl_cons (pv_var (L2.pv 1)) pl_nil)) (pv_lst (pl_cons (pv_var (L2.pv 1)) pl_nil))))
  (pms_one (pm_ret (pv_ix ix_seq fn_ix (pv_lst (pl_cons pv_non (pl_cons (pv_tup pl_nil) (pl_cons (pv_var (L2.pv 4)) (pl_cons pv_bl (pl_cons pv_str (pl_cons (pv_tup (pl_cons (pv_var (L2.pv 1)) pl_nil)) (pl_cons pv_int (pl_cons pv_dic0 (pl_cons pv_str (pl_cons pv_str (pl_cons pv_str (pl_cons (pv_tup (pl_cons pv_str (pl_cons pv_int (pl_cons pv_int pl_nil)))) pl_nil))))))))))))) (pv_call h__law_draw hr (by omega) (by rfl) tkF (pl_cons (pv_var (L2.pv 0)) (pl_cons pv_int pl_nil)))))))))⟩)
theorem sc__law_order : FnScope ["deck", "n", "left", "found", "turn"] ["deck", "n"] (defScope (top 28)) := ⟨rfl, rfl, rfl, by decide +kernel, rfl, by decide +kernel, by decide +kernel⟩
theorem ok__law_order {f : Addr} {fd : FuncData} (F : Fun K "_law_order" "_law_order" (top 28) f fd) (hx : mg "_law_order" = some (.ref f)) (T : Txt K mg C) (h__law_draw : FnM P w K mg base C 1 "_law_draw" 2 m__law_draw) : FnM P w K mg base C 2 "_law_order" 2 m__law_order :=
  fnM_of (k := 1) (N := ["deck", "n", "left", "found", "turn"]) F hx (F.binds (ps := ["deck", "n"]) fun _ _ _ _ _ _ us hl => match us, hl with | [_, _], _ => rfl) sc__law_order (fun cdv A outer s H E hr => ⟨_, (pms_cons (pm_par (i := 2) (j := 3) rfl sc__law_order.nd rfl rfl (by decide) rfl rfl (pl_cons (pv_listRg (own := true) rfl (by rfl) T.b_list (prm_1 (by rfl) T.b_range (pv_var (L2.pv 1)))) (pl_cons (pv_own pl_nil) pl_nil)) (by rfl))
  (pms_cons (pm_for psF rfl (pit_range1 (by rfl) T.b_range (pl_cons (pv_var (L2.pv 1)) pl_nil)) (pt_name sc__law_order.nd rfl (Or.inl rfl))
  (pms_one (pm_expr (pv_mtL PySem.F.slot_list_append PySem.F.type_list_append mt_append fn_app (pv_var (L2.pv 3)) (pl_cons (pv_mtL PySem.F.slot_list_pop PySem.F.type_list_pop mt_popAt fn_pop (pv_var (L2.pv 2)) (pl_cons (pv_call h__law_draw hr (by omega) (by rfl) tkF (pl_cons (pv_var (L2.pv 0)) (pl_cons (pv_callB cr_len fn_len (by rfl) T.b_len (by decide +kernel) (pl_cons (pv_var (L2.pv 2)) pl_nil)) pl_nil))) pl_nil)) pl_nil)))))
  (pms_one (pm_ret (pv_callTy call_tuple_of fn_tuple (by rfl) T.b_tuple (by decide +kernel) (pl_cons (pv_var (L2.pv 3)) pl_nil))))))⟩)
theorem sc__law_is_clause : FnScope ["count", "value", "k"] ["count", "value"] (defScope (top 29)) := ⟨rfl, rfl, rfl, by decide +kernel, rfl, by decide +kernel, by decide +kernel⟩
theorem ok__law_is_clause {f : Addr} {fd : FuncData} (F : Fun K "_law_is_clause" "_law_is_clause" (top 29) f fd) (hx : mg "_law_is_clause" = some (.ref f)) (T : Txt K mg C) (h__law_int : FnM P w K mg base C 1 "_law_int" 1 m__law_int) : FnM P w K mg base C 2 "_law_is_clause" 2 m__law_is_clause :=
  fnM_of (k := 1) (N := ["count", "value", "k"]) F hx (F.binds (ps := ["count", "value"]) fun _ _ _ _ _ _ us hl => match us, hl with | [_, _], _ => rfl) sc__law_is_clause (fun cdv A outer s H E hr => ⟨_, (pms_cons (pm_if (PBW.pb (pbw_or (pb_not (pb_val (pv_callB call_isi fn_isi (by rfl) T.b_isinstance (by decide +kernel) (pl_cons (pv_var (L2.pv 1)) (pl_cons (pv_type (by rfl) T.b_tuple (by decide +kernel)) pl_nil))))) (pbw_or1 (pb_not (pb_val (pv_callB (cr_all rfl) fn_all (by rfl) T.b_all (by decide +kernel) (pl_cons (pv_lc (own := [("k", 2)]) rfl sc__law_is_clause.nd resF_ok (pit_seq (pv_var (L2.pv 1))) (blkOk_by (by kernel_rfl)) (by decide) (fun q => (pt_name sc__law_is_clause.nd rfl (Or.inl rfl))) (fun q => ptst_nil) (fun q => (pv_and (pv_call h__law_int hr (by omega) (by rfl) takes0 (pl_cons (pv_var (L2.pv 2)) pl_nil)) (pv_and (pv_cmp (op_neM hr.units) fn_ne (pv_var (L2.pv 2)) pv_int (by rfl)) (pv_one (pv_cmp op_le fn_le (pv_callB call_abs fn_abs (by rfl) T.b_abs (by decide +kernel) (pl_cons (pv_var (L2.pv 2)) pl_nil)) (pv_var (L2.pv 0)) (by rfl))))))) pl_nil))))))) (pms_one (pm_ret pv_bl)) pms_nil)
  (pms_one (pm_ret (pv_and (pv_cmp (op_eqM hr.units) fn_eq (pv_callTy call_list_of fn_list (by rfl) T.b_list (by decide +kernel) (pl_cons (pv_var (L2.pv 1)) pl_nil)) (pv_sortedSet rfl (by rfl) T.b_set (by rfl) T.b_sorted (pv_var (L2.pv 1))) (by rfl)) (pv_one (pv_not (pv_callB (cr_any rfl) fn_any (by rfl) T.b_any (by decide +kernel) (pl_cons (pv_lc (own := [("k", 2)]) rfl sc__law_is_clause.nd resF_ok (pit_seq (pv_var (L2.pv 1))) (blkOk_by (by kernel_rfl)) (by decide) (fun q => (pt_name sc__law_is_clause.nd rfl (Or.inl rfl))) (fun q => ptst_nil) (fun q => (pv_cmp op_in_seq fn_in (pv_un un_neg fn_neg (pv_var (L2.pv 2))) (pv_var (L2.pv 1)) (by rfl)))) pl_nil))))))))⟩)
theorem sc__law_some_clause : FnScope ["deck", "count", "most", "words", "found", "turn", "word"] ["deck", "count", "most"] (defScope (top 30)) := ⟨rfl, rfl, rfl, by decide +kernel, rfl, by decide +kernel, by decide +kernel⟩
theorem ok__law_some_clause {f : Addr} {fd : FuncData} (F : Fun K "_law_some_clause" "_law_some_clause" (top 30) f fd) (hx : mg "_law_some_clause" = some (.ref f)) (T : Txt K mg C) (h__law_draw : FnM P w K mg base C 1 "_law_draw" 2 m__law_draw) (h__law_pick : FnM P w K mg base C 2 "_law_pick" 2 m__law_pick) : FnM P w K mg base C 3 "_law_some_clause" 3 m__law_some_clause :=
  fnM_of (k := 2) (N := ["deck", "count", "most", "words", "found", "turn", "word"]) F hx (F.binds (ps := ["deck", "count", "most"]) fun _ _ _ _ _ _ us hl => match us, hl with | [_, _, _], _ => rfl) sc__law_some_clause (fun cdv A outer s H E hr => ⟨_, (pms_cons (pm_set (i := 3) sc__law_some_clause.nd rfl (Or.inl rfl) (pv_listRg (own := true) rfl (by rfl) T.b_list (prm_2 (by rfl) T.b_range pv_int (pv_op op_addA fn_add (pv_var (L2.pv 1)) pv_int))))
  (pms_cons (pm_set (i := 4) sc__law_some_clause.nd rfl (Or.inl rfl) (pv_own pl_nil))
  (pms_cons (pm_for psF rfl (pit_range1 (by rfl) T.b_range (pl_cons (pv_callB (call_min2 rfl) fn_min2 (by rfl) T.b_min (by decide +kernel) (pl_cons (pv_var (L2.pv 1)) (pl_cons (pv_call h__law_draw hr (by omega) (by rfl) tkF (pl_cons (pv_var (L2.pv 0)) (pl_cons (pv_op op_addA fn_add (pv_var (L2.pv 2)) pv_int) pl_nil))) pl_nil))) pl_nil)) (pt_name sc__law_some_clause.nd rfl (Or.inl rfl))
  (pms_cons (pm_set (i := 6) sc__law_some_clause.nd rfl (Or.inl rfl) (pv_mtL PySem.F.slot_list_pop PySem.F.type_list_pop mt_popAt fn_pop (pv_var (L2.pv 3)) (pl_cons (pv_call h__law_draw hr (by omega) (by rfl) tkF (pl_cons (pv_var (L2.pv 0)) (pl_cons (pv_callB cr_len fn_len (by rfl) T.b_len (by decide +kernel) (pl_cons (pv_var (L2.pv 3)) pl_nil)) pl_nil))) pl_nil)))
  (pms_one (pm_expr (pv_mtL PySem.F.slot_list_append PySem.F.type_list_append mt_append fn_app (pv_var (L2.pv 4)) (pl_cons (pv_call h__law_pick hr (by omega) (by rfl) tkF (pl_cons (pv_var (L2.pv 0)) (pl_cons (pv_lst (pl_cons (pv_var (L2.pv 6)) (pl_cons (pv_un un_neg fn_neg (pv_var (L2.pv 6))) pl_nil))) pl_nil))) pl_nil))))))
  (pms_one (pm_ret (pv_callTy call_tuple_of fn_tuple (by rfl) T.b_tuple (by decide +kernel) (pl_cons (pv_callB cr_sortedI fn_sortedI (by rfl) T.b_sorted (by decide +kernel) (pl_cons (pv_var (L2.pv 4)) pl_nil)) pl_nil)))))))⟩)
theorem sc__law_clauses : FnScope ["deck", "count", "most", "found", "one", "other", "turn", "clause", "pair", "k"] ["deck", "count", "most"] (defScope (top 31)) := ⟨rfl, rfl, rfl, by decide +kernel, rfl, by decide +kernel, by decide +kernel⟩
theorem ok__law_clauses {f : Addr} {fd : FuncData} (F : Fun K "_law_clauses" "_law_clauses" (top 31) f fd) (hx : mg "_law_clauses" = some (.ref f)) (T : Txt K mg C) (h__law_draw : FnM P w K mg base C 1 "_law_draw" 2 m__law_draw) (h__law_some_clause : FnM P w K mg base C 3 "_law_some_clause" 3 m__law_some_clause) (h__law_order : FnM P w K mg base C 2 "_law_order" 2 m__law_order) : FnM P w K mg base C 4 "_law_clauses" 3 m__law_clauses :=
  fnM_of (k := 3) (N := ["deck", "count", "most", "found", "one", "other", "turn", "clause", "pair", "k"]) F hx (F.binds (ps := ["deck", "count", "most"]) fun _ _ _ _ _ _ us hl => match us, hl with | [_, _, _], _ => rfl) sc__law_clauses (fun cdv A outer s H E hr => ⟨_, (pms_cons (pm_set (i := 3) sc__law_clauses.nd rfl (Or.inr rfl) (pv_lc (own := [("turn", 6)]) rfl sc__law_clauses.nd resF_ok (pit_range1 (by rfl) T.b_range (pl_cons (pv_call h__law_draw hr (by omega) (by rfl) tkF (pl_cons (pv_var (L2.pv 0)) (pl_cons (pv_op op_addA fn_add (pv_var (L2.pv 2)) pv_int) pl_nil))) pl_nil)) (blkOk_by (by kernel_rfl)) (by decide) (fun q => (pt_name sc__law_clauses.nd rfl (Or.inl rfl))) (fun q => ptst_nil) (fun q => (pv_call h__law_some_clause hr (by omega) (by rfl) takes0 (pl_cons (pv_var (L2.pv 0)) (pl_cons (pv_var (L2.pv 1)) (pl_cons pv_int pl_nil)))))))
  (pms_cons (pm_set (i := 3) sc__law_clauses.nd rfl (Or.inr rfl) (pv_lc (own := [("clause", 7)]) rfl sc__law_clauses.nd resF_ok (pit_seq (pv_var (L2.pv 3))) (blkOk_by (by kernel_rfl)) (by decide) (fun q => (pt_name sc__law_clauses.nd rfl (Or.inl rfl))) (fun q => (ptst_one (PBW.pb (pbw_or (pb_cmp (op_neM hr.units) fn_ne (pv_var (L2.pv 7)) (pv_tup pl_nil) (by rfl)) (pbw_or1 (pb_cmp (op_eqM hr.units) fn_eq (pv_call h__law_draw hr (by omega) (by rfl) takes0 (pl_cons (pv_var (L2.pv 0)) (pl_cons pv_int pl_nil))) pv_int (by rfl))))))) (fun q => (pv_var (L2.pv 7)))))
  (pms_cons (pm_if (PBW.pb (pbw_and (pb_cmp op_gt fn_gt (pv_var (L2.pv 1)) pv_int (by rfl)) (pbw_and1 (pb_cmp (op_eqM hr.units) fn_eq (pv_call h__law_draw hr (by omega) (by rfl) tkF (pl_cons (pv_var (L2.pv 0)) (pl_cons pv_int pl_nil))) pv_int (by rfl))))) (pms_cons (pm_par (i := 4) (j := 5) rfl sc__law_clauses.nd rfl rfl (by decide) rfl rfl (pl_cons (pv_ix ix_seq fn_ix (pv_lst (pl_cons pv_int (pl_cons (pv_un un_neg fn_neg pv_int) pl_nil))) (pv_call h__law_draw hr (by omega) (by rfl) tkF (pl_cons (pv_var (L2.pv 0)) (pl_cons pv_int pl_nil)))) (pl_cons (pv_ix ix_seq fn_ix (pv_lst (pl_cons pv_int (pl_cons (pv_un un_neg fn_neg pv_int) pl_nil))) (pv_call h__law_draw hr (by omega) (by rfl) tkF (pl_cons (pv_var (L2.pv 0)) (pl_cons pv_int pl_nil)))) pl_nil)) (by rfl))
  (pms_one (pm_set (i := 3) sc__law_clauses.nd rfl (Or.inr rfl) (pv_op op_addA fn_add (pv_var (L2.pv 3)) (pv_lc (own := [("pair", 8)]) rfl sc__law_clauses.nd resF_ok (pit_seq (pv_lst (pl_cons (pv_tup (pl_cons (pv_var (L2.pv 4)) (pl_cons (pv_var (L2.pv 5)) pl_nil))) (pl_cons (pv_tup (pl_cons (pv_un un_neg fn_neg (pv_var (L2.pv 4))) (pl_cons (pv_var (L2.pv 5)) pl_nil))) (pl_cons (pv_tup (pl_cons (pv_var (L2.pv 4)) (pl_cons (pv_un un_neg fn_neg (pv_var (L2.pv 5))) pl_nil))) (pl_cons (pv_tup (pl_cons (pv_un un_neg fn_neg (pv_var (L2.pv 4))) (pl_cons (pv_un un_neg fn_neg (pv_var (L2.pv 5))) pl_nil))) pl_nil)))))) (blkOk_by (by kernel_rfl)) (by decide) (fun q => (pt_name sc__law_clauses.nd rfl (Or.inl rfl))) (fun q => ptst_nil) (fun q => (pv_callTy call_tuple_of fn_tuple (by rfl) T.b_tuple (by decide +kernel) (pl_cons (pv_callB cr_sortedTp fn_sortedTp (by rfl) T.b_sorted (by decide +kernel) (pl_cons (pv_var (L2.pv 8)) pl_nil)) pl_nil)))))))) pms_nil)
  (pms_one (pm_ret (pv_callTy call_tuple_of fn_tuple (by rfl) T.b_tuple (by decide +kernel) (pl_cons (pv_lc (own := [("k", 9)]) rfl sc__law_clauses.nd resF_ok (pit_seq (pv_call h__law_order hr (by omega) (by rfl) tkF (pl_cons (pv_var (L2.pv 0)) (pl_cons (pv_callB cr_len fn_len (by rfl) T.b_len (by decide +kernel) (pl_cons (pv_var (L2.pv 3)) pl_nil)) pl_nil)))) (blkOk_by (by kernel_rfl)) (by decide) (fun q => (pt_name sc__law_clauses.nd rfl (Or.inl rfl))) (fun q => ptst_nil) (fun q => (pv_ix ix_seq fn_ix (pv_var (L2.pv 3)) (pv_var (L2.pv 9))))) pl_nil)))))))⟩)
theorem sc__law_all_truths : FnScope ["count", "found", "k", "truths"] ["count"] (defScope (top 32)) := ⟨rfl, rfl, rfl, by decide +kernel, rfl, by decide +kernel, by decide +kernel⟩
theorem ok__law_all_truths {f : Addr} {fd : FuncData} (F : Fun K "_law_all_truths" "_law_all_truths" (top 32) f fd) (hx : mg "_law_all_truths" = some (.ref f)) (T : Txt K mg C)  : FnM P w K mg base C 1 "_law_all_truths" 1 m__law_all_truths :=
  fnM_of (k := 0) (N := ["count", "found", "k", "truths"]) F hx (F.binds (ps := ["count"]) fun _ _ _ _ _ _ us hl => match us, hl with | [_], _ => rfl) sc__law_all_truths (fun cdv A outer s H E hr => ⟨_, (pms_cons (pm_set (i := 1) sc__law_all_truths.nd rfl (Or.inl rfl) (pv_lst (pl_cons (pv_tup pl_nil) pl_nil)))
  (pms_cons (pm_for psF rfl (pit_range1 (by rfl) T.b_range (pl_cons (pv_var (L2.pv 0)) pl_nil)) (pt_name sc__law_all_truths.nd rfl (Or.inl rfl))
  (pms_one (pm_set (i := 1) sc__law_all_truths.nd rfl (Or.inl rfl) (pv_op op_addA fn_add (pv_lc (own := [("truths", 3)]) rfl sc__law_all_truths.nd resF_ok (pit_seq (pv_var (L2.pv 1))) (blkOk_by (by kernel_rfl)) (by decide) (fun q => (pt_name sc__law_all_truths.nd rfl (Or.inl rfl))) (fun q => ptst_nil) (fun q => (pv_op op_addA fn_add (pv_var (L2.pv 3)) (pv_tup (pl_cons pv_bl pl_nil))))) (pv_lc (own := [("truths", 3)]) rfl sc__law_all_truths.nd resF_ok (pit_seq (pv_var (L2.pv 1))) (blkOk_by (by kernel_rfl)) (by decide) (fun q => (pt_name sc__law_all_truths.nd rfl (Or.inl rfl))) (fun q => ptst_nil) (fun q => (pv_op op_addA fn_add (pv_var (L2.pv 3)) (pv_tup (pl_cons pv_bl pl_nil)))))))))
  (pms_one (pm_ret (pv_callB cr_sortedG (fn_sortedG hr.units) (by rfl) T.b_sorted (by decide +kernel) (pl_cons (pv_var (L2.pv 1)) pl_nil))))))⟩)
theorem sc__law_hold_all : FnScope ["truths", "clauses", "clause", "k"] ["truths", "clauses"] (defScope (top 33)) := ⟨rfl, rfl, rfl, by decide +kernel, rfl, by decide +kernel, by decide +kernel⟩
theorem ok__law_hold_all {f : Addr} {fd : FuncData} (F : Fun K "_law_hold_all" "_law_hold_all" (top 33) f fd) (hx : mg "_law_hold_all" = some (.ref f)) (T : Txt K mg C)  : FnM P w K mg base C 1 "_law_hold_all" 2 m__law_hold_all :=
  fnM_of (k := 0) (N := ["truths", "clauses", "clause", "k"]) F hx (F.binds (ps := ["truths", "clauses"]) fun _ _ _ _ _ _ us hl => match us, hl with | [_, _], _ => rfl) sc__law_hold_all (fun cdv A outer s H E hr => ⟨_, (pms_one (pm_ret (pv_callB (cr_all rfl) fn_all (by rfl) T.b_all (by decide +kernel) (pl_cons (pv_lc (own := [("clause", 2)]) rfl sc__law_hold_all.nd resF_ok (pit_seq (pv_var (L2.pv 1))) (blkOk_by (by kernel_rfl)) (by decide) (fun q => (pt_name sc__law_hold_all.nd rfl (Or.inl rfl))) (fun q => ptst_nil) (fun q => by exact (pv_callB (cr_any rfl) fn_any (by rfl) T.b_any (by decide +kernel) (pl_cons (by exact (pv_lc (own := [("k", 3)]) (wi := iSeq K _) rfl sc__law_hold_all.nd resF_ok (pit_seq (pv_var (L2.pv 2))) (blkOk_by (by kernel_rfl)) (by decide) (fun q => (pt_name sc__law_hold_all.nd rfl (Or.inl rfl))) (fun q => ptst_nil) (fun q => (pv_cmp (op_eqM hr.units) fn_eq (pv_ix ix_seq fn_ix (pv_var (L2.pv 0)) (pv_op op_sub fn_sub (pv_callB call_abs fn_abs (by rfl) T.b_abs (by decide +kernel) (pl_cons (pv_var (L2.pv 3)) pl_nil)) pv_int)) (pv_cmp op_gt fn_gt (pv_var (L2.pv 3)) pv_int (by rfl)) (by rfl))))) pl_nil)))) pl_nil))))⟩)
theorem sc__law_models : FnScope ["count", "clauses", "truths"] ["count", "clauses"] (defScope (top 34)) := ⟨rfl, rfl, rfl, by decide +kernel, rfl, by decide +kernel, by decide +kernel⟩
theorem ok__law_models {f : Addr} {fd : FuncData} (F : Fun K "_law_models" "_law_models" (top 34) f fd) (hx : mg "_law_models" = some (.ref f)) (T : Txt K mg C) (h__law_all_truths : FnM P w K mg base C 1 "_law_all_truths" 1 m__law_all_truths) (h__law_hold_all : FnM P w K mg base C 1 "_law_hold_all" 2 m__law_hold_all) : FnM P w K mg base C 2 "_law_models" 2 m__law_models :=
  fnM_of (k := 1) (N := ["count", "clauses", "truths"]) F hx (F.binds (ps := ["count", "clauses"]) fun _ _ _ _ _ _ us hl => match us, hl with | [_, _], _ => rfl) sc__law_models (fun cdv A outer s H E hr => ⟨_, (pms_one (pm_ret (pv_lc (own := [("truths", 2)]) rfl sc__law_models.nd resF_ok (pit_seq (pv_call h__law_all_truths hr (by omega) (by rfl) tkF (pl_cons (pv_var (L2.pv 0)) pl_nil))) (blkOk_by (by kernel_rfl)) (by decide) (fun q => (pt_name sc__law_models.nd rfl (Or.inl rfl))) (fun q => (ptst_one (pb_val (pv_call h__law_hold_all hr (by omega) (by rfl) takes0 (pl_cons (pv_var (L2.pv 2)) (pl_cons (pv_var (L2.pv 1)) pl_nil)))))) (fun q => (pv_var (L2.pv 2))))))⟩)
theorem sc__law_no_clauses : FnScope ["deck", "count"] ["deck", "count"] (defScope (top 35)) := ⟨rfl, rfl, rfl, by decide +kernel, rfl, by decide +kernel, by decide +kernel⟩
theorem ok__law_no_clauses {f : Addr} {fd : FuncData} (F : Fun K "_law_no_clauses" "_law_no_clauses" (top 35) f fd) (hx : mg "_law_no_clauses" = some (.ref f)) (T : Txt K mg C) (h__law_pick : FnM P w K mg base C 2 "_law_pick" 2 m__law_pick) : FnM P w K mg base C 3 "_law_no_clauses" 2 m__law_no_clauses :=
  fnM_of (k := 2) (N := ["deck", "count"]) F hx (F.binds (ps := ["deck", "count"]) fun _ _ _ _ _ _ us hl => match us, hl with | [_, _], _ => rfl) sc__law_no_clauses (fun cdv A outer s H E hr => ⟨_, (pms_one (pm_ret (pv_call h__law_pick hr (by omega) (by rfl) tkF (pl_cons (pv_var (L2.pv 0)) (pl_cons (pv_lst (pl_cons pv_non (pl_cons (pv_lst pl_nil) (pl_cons pv_int (pl_cons (pv_tup (pl_cons (pv_tup (pl_cons pv_int pl_nil)) pl_nil)) (pl_cons (pv_tup (pl_cons (pv_tup (pl_cons pv_int (pl_cons (pv_un un_neg fn_neg pv_int) pl_nil))) pl_nil)) (pl_cons (pv_tup (pl_cons (pv_tup (pl_cons pv_int (pl_cons pv_int pl_nil))) pl_nil)) (pl_cons (pv_tup (pl_cons (pv_tup (pl_cons (pv_op op_addA fn_add (pv_var (L2.pv 1)) pv_int) pl_nil)) pl_nil)) (pl_cons (pv_tup (pl_cons (pv_lst (pl_cons pv_int pl_nil)) pl_nil)) (pl_cons (pv_tup (pl_cons (pv_tup (pl_cons pv_bl pl_nil)) pl_nil)) (pl_cons (pv_tup (pl_cons (pv_tup (pl_cons pv_int (pl_cons pv_int pl_nil))) pl_nil)) (pl_cons (pv_tup (pl_cons pv_int pl_nil)) (pl_cons pv_str (pl_cons pv_dic0 pl_nil)))))))))))))) pl_nil)))))⟩)
theorem sc__law_ask : FnScope ["which", "args", "told", "word"] ["which", "args"] (defScope (top 36)) := ⟨rfl, rfl, rfl, by decide +kernel, rfl, by decide +kernel, by decide +kernel⟩
theorem ok__law_ask {f : Addr} {fd : FuncData} (F : Fun K "_law_ask" "_law_ask" (top 36) f fd) (hx : mg "_law_ask" = some (.ref f)) (T : Txt K mg C) (h_forced : FnM P w K mg base C 4 "forced" 3 m_forced) (h_is_settled : FnM P w K mg base C 4 "is_settled" 3 m_is_settled) (h_probes : FnM P w K mg base C 4 "probes" 2 m_probes) : FnM P w K mg base C 5 "_law_ask" 2 m__law_ask :=
  fnM_of (k := 4) (N := ["which", "args", "told", "word"]) F hx (F.binds (ps := ["which", "args"]) fun _ _ _ _ _ _ us hl => match us, hl with | [_, _], _ => rfl) sc__law_ask (fun cdv A outer s H E hr => ⟨_, (pms_cons (pm_asg (pv_tup (pl_cons pv_non (pl_cons pv_str pl_nil))) (pt_tup rfl (pt_cons (pt_name sc__law_ask.nd rfl (Or.inl rfl)) (pt_cons (pt_name sc__law_ask.nd rfl (Or.inl rfl)) pt_nil))))
  (pms_cons (pm_try rfl rfl tkF T.exm (fun W' pn xe tk pp => (pms_one (pm_if (pb_cmp (op_eqM hr.units) fn_eq (pv_var (L2.pv 0)) pv_int (by rfl)) (pms_one (pm_set (i := 2) sc__law_ask.nd rfl (Or.inl rfl) (pv_call h_forced hr (by omega) (by rfl) tk (pl_cons (pv_ix ix_seq fn_ix (pv_var (L2.pv 1)) pv_int) (pl_cons (pv_ix ix_seq fn_ix (pv_var (L2.pv 1)) pv_int) (pl_cons (pv_ix ix_seq fn_ix (pv_var (L2.pv 1)) pv_int) pl_nil)))))) (pms_one (pm_if (pb_cmp (op_eqM hr.units) fn_eq (pv_var (L2.pv 0)) pv_int (by rfl)) (pms_one (pm_set (i := 2) sc__law_ask.nd rfl (Or.inl rfl) (pv_call h_is_settled hr (by omega) (by rfl) tk (pl_cons (pv_ix ix_seq fn_ix (pv_var (L2.pv 1)) pv_int) (pl_cons (pv_ix ix_seq fn_ix (pv_var (L2.pv 1)) pv_int) (pl_cons (pv_ix ix_seq fn_ix (pv_var (L2.pv 1)) pv_int) pl_nil)))))) (pms_one (pm_set (i := 2) sc__law_ask.nd rfl (Or.inl rfl) (pv_call h_probes hr (by omega) (by rfl) tk (pl_cons (pv_ix ix_seq fn_ix (pv_var (L2.pv 1)) pv_int) (pl_cons (pv_ix ix_seq fn_ix (pv_var (L2.pv 1)) pv_int) pl_nil)))))))))) (Hds.cons (k := 2) ⟨by rfl, by decide, .inl T.x_InvalidLiterals.g⟩ (fun _ _ _ => pms_quiet (pms_one (pm_set (i := 3) sc__law_ask.nd rfl (Or.inl rfl) pv_str))) (Hds.cons (k := 1) ⟨by rfl, by decide, .inl T.x_InvalidClauses.g⟩ (fun _ _ _ => pms_quiet (pms_one (pm_set (i := 3) sc__law_ask.nd rfl (Or.inl rfl) pv_str))) (Hds.cons (k := 0) ⟨by rfl, by decide, .inl T.x_InvalidNumber.g⟩ (fun _ _ _ => pms_quiet (pms_one (pm_set (i := 3) sc__law_ask.nd rfl (Or.inl rfl) pv_str))) Hds.nil))) (by intro m hm; simp only [List.mem_cons, List.not_mem_nil, or_false] at hm; rcases hm with rfl | rfl | rfl <;> exact ⟨by decide, by dsimp only; exact sQuiet_no⟩))
  (pms_one (pm_ret (pv_ifExp (pb_cmp (op_eqM hr.units) fn_eq (pv_var (L2.pv 3)) pv_str (by rfl)) (pv_lst (pl_cons (pv_var (L2.pv 2)) pl_nil)) (pv_var (L2.pv 3)))))))⟩)
theorem sc__law_forced : FnScope ["clauses", "literals", "found", "grown", "clause", "left", "k", "other"] ["clauses", "literals"] (defScope (top 37)) := ⟨rfl, rfl, rfl, by decide +kernel, rfl, by decide +kernel, by decide +kernel⟩
theorem ok__law_forced {f : Addr} {fd : FuncData} (F : Fun K "_law_forced" "_law_forced" (top 37) f fd) (hx : mg "_law_forced" = some (.ref f)) (T : Txt K mg C)  : FnM P w K mg base C 1 "_law_forced" 2 m__law_forced :=
  fnM_of (k := 0) (N := ["clauses", "literals", "found", "grown", "clause", "left", "k", "other"]) F hx (F.binds (ps := ["clauses", "literals"]) fun _ _ _ _ _ _ us hl => match us, hl with | [_, _], _ => rfl) sc__law_forced (fun cdv A outer s H E hr => ⟨_, (pms_cons (pm_asg (pv_tup (pl_cons (pv_callTy call_list_of fn_listO (by rfl) T.b_list (by decide +kernel) (pl_cons (pv_var (L2.pv 1)) pl_nil)) (pl_cons pv_bl pl_nil))) (pt_tup rfl (pt_cons (pt_name sc__law_forced.nd rfl (Or.inr rfl)) (pt_cons (pt_name sc__law_forced.nd rfl (Or.inl rfl)) pt_nil))))
  (pms_cons (pm_while psF (pb_val (pv_var (L2.pv 3)))
  (pms_cons (pm_set (i := 3) sc__law_forced.nd rfl (Or.inl rfl) pv_bl)
  (pms_cons (pm_for psF rfl (pit_seq (pv_var (L2.pv 0))) (pt_name sc__law_forced.nd rfl (Or.inl rfl))
  (pms_cons (pm_setLc (i := 5) (own := [("k", 6)]) rfl sc__law_forced.nd rfl rfl (sw_true rfl rfl (by rfl) (by rfl)) resF_ok (pit_seq (pv_var (L2.pv 4))) (blkOk_by (by kernel_rfl)) (by decide) (fun q => (pt_name sc__law_forced.nd rfl (Or.inl rfl))) (fun q => (ptst_one (pb_cmp op_notIn_seq fn_nin (pv_un un_neg fn_neg (pv_var (L2.pv 6))) (pv_var (L2.pv 2)) (by rfl)))) (fun q => (pv_var (L2.pv 6))))
  (pms_cons (pm_if (pb_cmp (op_eqM hr.units) fn_eq (pv_var (L2.pv 5)) (pv_lst pl_nil) (by rfl)) (pms_one (pm_ret pv_non)) pms_nil)
  (pms_one (pm_if (PBW.pb (pbw_and (pb_cmp (op_eqM hr.units) fn_eq (pv_callB cr_len fn_len (by rfl) T.b_len (by decide +kernel) (pl_cons (pv_var (L2.pv 5)) pl_nil)) pv_int (by rfl)) (pbw_and1 (pb_cmp op_notIn_seq fn_nin (pv_ix ix_seq fn_ix (pv_var (L2.pv 5)) pv_int) (pv_var (L2.pv 2)) (by rfl))))) (pms_cons (pm_expr (pv_mtL PySem.F.slot_list_append PySem.F.type_list_append mt_append fn_app (pv_var (L2.pv 2)) (pl_cons (pv_ix ix_seq fn_ix (pv_var (L2.pv 5)) pv_int) pl_nil)))
  (pms_one (pm_set (i := 3) sc__law_forced.nd rfl (Or.inl rfl) pv_bl))) pms_nil)))))
  (pms_cons (pm_for psF rfl (pit_seq (pv_var (L2.pv 0))) (pt_name sc__law_forced.nd rfl (Or.inl rfl))
  (pms_one (pm_for psF rfl (pit_seq (pv_var (L2.pv 4))) (pt_name sc__law_forced.nd rfl (Or.inr rfl))
  (pms_one (pm_if (PBW.pb (pbw_and (pb_cmp op_notIn_seq fn_nin (pv_var (L2.pv 6)) (pv_var (L2.pv 2)) (by rfl)) (pbw_and1 (pb_val (pv_callB (cr_all rfl) fn_all (by rfl) T.b_all (by decide +kernel) (pl_cons (pv_lc (own := [("other", 7)]) rfl sc__law_forced.nd resF_ok (pit_seq (pv_var (L2.pv 4))) (blkOk_by (by kernel_rfl)) (by decide) (fun q => (pt_name sc__law_forced.nd rfl (Or.inl rfl))) (fun q => (ptst_one (pb_cmp (op_neM hr.units) fn_ne (pv_var (L2.pv 7)) (pv_var (L2.pv 6)) (by rfl)))) (fun q => (pv_cmp op_in_seq fn_in (pv_un un_neg fn_neg (pv_var (L2.pv 7))) (pv_var (L2.pv 2)) (by rfl)))) pl_nil)))))) (pms_cons (pm_expr (pv_mtL PySem.F.slot_list_append PySem.F.type_list_append mt_append fn_app (pv_var (L2.pv 2)) (pl_cons (pv_var (L2.pv 6)) pl_nil)))
  (pms_one (pm_set (i := 3) sc__law_forced.nd rfl (Or.inl rfl) pv_bl))) pms_nil)))))
  (pms_one (pm_if (pb_val (pv_callB (cr_any rfl) fn_any (by rfl) T.b_any (by decide +kernel) (pl_cons (pv_lc (own := [("k", 6)]) rfl sc__law_forced.nd resF_ok (pit_seq (pv_var (L2.pv 2))) (blkOk_by (by kernel_rfl)) (by decide) (fun q => (pt_name sc__law_forced.nd rfl (Or.inl rfl))) (fun q => ptst_nil) (fun q => (pv_cmp op_in_seq fn_in (pv_un un_neg fn_neg (pv_var (L2.pv 6))) (pv_var (L2.pv 2)) (by rfl)))) pl_nil))) (pms_one (pm_ret pv_non)) pms_nil))))))
  (pms_one (pm_ret (pv_callTy call_tuple_of fn_tuple (by rfl) T.b_tuple (by decide +kernel) (pl_cons (pv_callB cr_sortedI fn_sortedI (by rfl) T.b_sorted (by decide +kernel) (pl_cons (pv_var (L2.pv 2)) pl_nil)) pl_nil))))))⟩)
theorem sc__law_due : FnScope ["which", "count", "clauses", "literals", "found", "clause", "k"] ["which", "count", "clauses", "literals"] (defScope (top 38)) := ⟨rfl, rfl, rfl, by decide +kernel, rfl, by decide +kernel, by decide +kernel⟩
theorem ok__law_due {f : Addr} {fd : FuncData} (F : Fun K "_law_due" "_law_due" (top 38) f fd) (hx : mg "_law_due" = some (.ref f)) (T : Txt K mg C) (h__law_forced : FnM P w K mg base C 1 "_law_forced" 2 m__law_forced) : FnM P w K mg base C 2 "_law_due" 4 m__law_due :=
  fnM_of (k := 1) (N := ["which", "count", "clauses", "literals", "found", "clause", "k"]) F hx (F.binds (ps := ["which", "count", "clauses", "literals"]) fun _ _ _ _ _ _ us hl => match us, hl with | [_, _, _, _], _ => rfl) sc__law_due (fun cdv A outer s H E hr => ⟨_, (pms_cons (pm_set (i := 4) sc__law_due.nd rfl (Or.inr rfl) (pv_call h__law_forced hr (by omega) (by rfl) tkF (pl_cons (pv_var (L2.pv 2)) (pl_cons (pv_var (L2.pv 3)) pl_nil))))
  (pms_cons (pm_if (pb_cmp (op_eqM hr.units) fn_eq (pv_var (L2.pv 0)) pv_int (by rfl)) (pms_one (pm_ret (pv_lst (pl_cons (pv_var (L2.pv 4)) pl_nil)))) pms_nil)
  (pms_one (pm_ret (pv_lst (pl_cons (pv_and (pv_notN (pv_var (L2.pv 4))) (pv_one (pv_callB (cr_all rfl) fn_all (by rfl) T.b_all (by decide +kernel) (pl_cons (pv_lc (own := [("clause", 5)]) rfl sc__law_due.nd resF_ok (pit_seq (pv_var (L2.pv 2))) (blkOk_by (by kernel_rfl)) (by decide) (fun q => (pt_name sc__law_due.nd rfl (Or.inl rfl))) (fun q => ptst_nil) (fun q => by exact (pv_callB (cr_any rfl) fn_any (by rfl) T.b_any (by decide +kernel) (pl_cons (by exact (pv_lc (own := [("k", 6)]) (wi := iSeq K _) rfl sc__law_due.nd resF_ok (pit_seq (pv_var (L2.pv 5))) (blkOk_by (by kernel_rfl)) (by decide) (fun q => (pt_name sc__law_due.nd rfl (Or.inl rfl))) (fun q => ptst_nil) (fun q => (pv_cmp op_in_seq fn_in (pv_var (L2.pv 6)) (pv_var (L2.pv 4)) (by rfl))))) pl_nil)))) pl_nil)))) pl_nil))))))⟩)
theorem sc__law_facts_right : FnScope ["count", "clauses", "literals", "models", "found", "some", "truths", "k"] ["count", "clauses", "literals", "models"] (defScope (top 39)) := ⟨rfl, rfl, rfl, by decide +kernel, rfl, by decide +kernel, by decide +kernel⟩
theorem ok__law_facts_right {f : Addr} {fd : FuncData} (F : Fun K "_law_facts_right" "_law_facts_right" (top 39) f fd) (hx : mg "_law_facts_right" = some (.ref f)) (T : Txt K mg C) (h__law_forced : FnM P w K mg base C 1 "_law_forced" 2 m__law_forced) (h__law_due : FnM P w K mg base C 2 "_law_due" 4 m__law_due) : FnM P w K mg base C 3 "_law_facts_right" 4 m__law_facts_right :=
  fnM_of (k := 2) (N := ["count", "clauses", "literals", "models", "found", "some", "truths", "k"]) F hx (F.binds (ps := ["count", "clauses", "literals", "models"]) fun _ _ _ _ _ _ us hl => match us, hl with | [_, _, _, _], _ => rfl) sc__law_facts_right (fun cdv A outer s H E hr => ⟨_, (pms_cons (pm_set (i := 4) sc__law_facts_right.nd rfl (Or.inr rfl) (pv_call h__law_forced hr (by omega) (by rfl) tkF (pl_cons (pv_var (L2.pv 1)) (pl_cons (pv_var (L2.pv 2)) pl_nil))))
  (pms_cons (pm_setLc (i := 5) (own := [("truths", 6)]) rfl sc__law_facts_right.nd rfl rfl (sw_true rfl rfl (by rfl) (by rfl)) resF_ok (pit_seq (pv_var (L2.pv 3))) (blkOk_by (by kernel_rfl)) (by decide) (fun q => (pt_name sc__law_facts_right.nd rfl (Or.inr rfl))) (fun q => (ptst_one (pb_val (pv_callB (cr_all rfl) fn_all (by rfl) T.b_all (by decide +kernel) (pl_cons (by exact (pv_lc (own := [("k", 7)]) (wi := iSeq K _) rfl sc__law_facts_right.nd resF_ok (pit_seq (pv_var (L2.pv 2))) (blkOk_by (by kernel_rfl)) (by decide) (fun q => (pt_name sc__law_facts_right.nd rfl (Or.inl rfl))) (fun q => ptst_nil) (fun q => (pv_cmp (op_eqM hr.units) fn_eq (pv_ix ix_seq fn_ix (pv_var (L2.pv 6)) (pv_op op_sub fn_sub (pv_callB call_abs fn_abs (by rfl) T.b_abs (by decide +kernel) (pl_cons (pv_var (L2.pv 7)) pl_nil)) pv_int)) (pv_cmp op_gt fn_gt (pv_var (L2.pv 7)) pv_int (by rfl)) (by rfl))))) pl_nil))))) (fun q => (pv_var (L2.pv 6))))
  (pms_cons (pm_if (pb_isN (pv_var (L2.pv 4))) (pms_one (pm_ret (pv_cmp (op_eqM hr.units) fn_eq (pv_var (L2.pv 5)) (pv_lst pl_nil) (by rfl)))) pms_nil)
  (pms_cons (pm_if (pb_not (pb_val (pv_callB (cr_all rfl) fn_all (by rfl) T.b_all (by decide +kernel) (pl_cons (pv_lc (own := [("truths", 6)]) rfl sc__law_facts_right.nd resF_ok (pit_seq (pv_var (L2.pv 5))) (blkOk_by (by kernel_rfl)) (by decide) (fun q => (pt_name sc__law_facts_right.nd rfl (Or.inr rfl))) (fun q => ptst_nil) (fun q => by exact (pv_callB (cr_all rfl) fn_all (by rfl) T.b_all (by decide +kernel) (pl_cons (by exact (pv_lc (own := [("k", 7)]) (wi := iSeq K _) rfl sc__law_facts_right.nd resF_ok (pit_seq (pv_var (L2.pv 4))) (blkOk_by (by kernel_rfl)) (by decide) (fun q => (pt_name sc__law_facts_right.nd rfl (Or.inl rfl))) (fun q => ptst_nil) (fun q => (pv_cmp (op_eqM hr.units) fn_eq (pv_ix ix_seq fn_ix (pv_var (L2.pv 6)) (pv_op op_sub fn_sub (pv_callB call_abs fn_abs (by rfl) T.b_abs (by decide +kernel) (pl_cons (pv_var (L2.pv 7)) pl_nil)) pv_int)) (pv_cmp op_gt fn_gt (pv_var (L2.pv 7)) pv_int (by rfl)) (by rfl))))) pl_nil)))) pl_nil)))) (pms_one (pm_ret pv_bl)) pms_nil)
  (pms_one (pm_ret (pv_or (pv_cmp (op_neM hr.units) fn_ne (pv_var (L2.pv 5)) (pv_lst pl_nil) (by rfl)) (pv_one (pv_not (pv_ix ix_seq fn_ix (pv_call h__law_due hr (by omega) (by rfl) tkF (pl_cons pv_int (pl_cons (pv_var (L2.pv 0)) (pl_cons (pv_var (L2.pv 1)) (pl_cons (pv_var (L2.pv 2)) pl_nil))))) pv_int))))))))))⟩)
theorem sc_law : FnScope ["script", "cell", "deck", "turn", "count", "clauses", "models", "signed", "sure", "again", "literals", "value", "fits", "which", "due", "bad", "k", "truths"] ["script"] (defScope (top 40)) := ⟨rfl, rfl, rfl, by decide +kernel, rfl, by decide +kernel, by decide +kernel⟩
theorem ok_law {f : Addr} {fd : FuncData} (F : Fun K "law" "law" (top 40) f fd) (T : Txt K mg C) (h__law_deck : FnM P w K mg base C 1 "_law_deck" 1 m__law_deck) (h__law_draw : FnM P w K mg base C 1 "_law_draw" 2 m__law_draw) (h__law_clauses : FnM P w K mg base C 4 "_law_clauses" 3 m__law_clauses) (h__law_models : FnM P w K mg base C 2 "_law_models" 2 m__law_models) (h__law_forced : FnM P w K mg base C 1 "_law_forced" 2 m__law_forced) (h__law_ask : FnM P w K mg base C 5 "_law_ask" 2 m__law_ask) (h__law_same : FnM P w K mg base C 8 "_law_same" 2 (m__law_same 8)) (h__law_some_clause : FnM P w K mg base C 3 "_law_some_clause" 3 m__law_some_clause) (h__law_facts_right : FnM P w K mg base C 3 "_law_facts_right" 4 m__law_facts_right) (h__law_bent : FnM P w K mg base C 9 "_law_bent" 2 (m__law_bent 8)) (h__law_is_clause : FnM P w K mg base C 2 "_law_is_clause" 2 m__law_is_clause) (h__law_due : FnM P w K mg base C 2 "_law_due" 4 m__law_due) (h__law_no_clauses : FnM P w K mg base C 3 "_law_no_clauses" 2 m__law_no_clauses) (h__law_pick : FnM P w K mg base C 2 "_law_pick" 2 m__law_pick) (hm : ∀ ns : List Int, ∃ S', sSeq (fun env S => forD (fun S' => True) (gtN 1) law_body (cellsD 7860419 ns) env S) law_rest (List.replicate 18 none) [] = .rt (.bl true) S') : FnOk P w K mg base (L2.CX P w) 10 f fd ["script"] (spLaw K) :=
  okLaw (k := 9) (N := ["script", "cell", "deck", "turn", "count", "clauses", "models", "signed", "sure", "again", "literals", "value", "fits", "which", "due", "bad", "k", "truths"]) (c := 7860419) (i := 1) F sc_law (by decide) (fun cdv A outer s H E hr => ⟨_, plaw psF rfl (L2.pv 0) (pt_name sc_law.nd rfl (Or.inl rfl))
  (pms_cons (pm_set (i := 2) sc_law.nd rfl (Or.inr rfl) (pv_call h__law_deck hr (by omega) (by rfl) tkF (pl_cons (pv_var (L2.pv 1)) pl_nil)))
  (pms_one (pm_for psF rfl (pit_range1 (by rfl) T.b_range (pl_cons pv_int pl_nil)) (pt_name sc_law.nd rfl (Or.inl rfl))
  (pms_cons (pm_set (i := 4) sc_law.nd rfl (Or.inr rfl) (pv_op op_addA fn_add pv_int (pv_call h__law_draw hr (by omega) (by rfl) tkF (pl_cons (pv_var (L2.pv 2)) (pl_cons pv_int pl_nil)))))
  (pms_cons (pm_set (i := 5) sc_law.nd rfl (Or.inr rfl) (pv_call h__law_clauses hr (by omega) (by rfl) tkF (pl_cons (pv_var (L2.pv 2)) (pl_cons (pv_var (L2.pv 4)) (pl_cons pv_int pl_nil)))))
  (pms_cons (pm_set (i := 6) sc_law.nd rfl (Or.inl rfl) (pv_call h__law_models hr (by omega) (by rfl) tkF (pl_cons (pv_var (L2.pv 4)) (pl_cons (pv_var (L2.pv 5)) pl_nil))))
  (pms_cons (pm_set (i := 7) sc_law.nd rfl (Or.inl rfl) (pv_op op_addA fn_add (pv_lc (own := [("k", 16)]) rfl sc_law.nd resF_ok (pit_range3 (by rfl) T.b_range (pl_cons (pv_var (L2.pv 4)) (pl_cons pv_int (pl_cons (pv_un un_neg fn_neg pv_int) pl_nil)))) (blkOk_by (by kernel_rfl)) (by decide) (fun q => (pt_name sc_law.nd rfl (Or.inl rfl))) (fun q => ptst_nil) (fun q => (pv_un un_neg fn_neg (pv_var (L2.pv 16))))) (pv_listRg (own := false) rfl (by rfl) T.b_list (prm_2 (by rfl) T.b_range pv_int (pv_op op_addA fn_add (pv_var (L2.pv 4)) pv_int)))))
  (pms_cons (pm_set (i := 8) sc_law.nd rfl (Or.inr rfl) (pv_callTy call_tuple_of fn_tuple (by rfl) T.b_tuple (by decide +kernel) (pl_cons (pv_lc (own := [("k", 16)]) rfl sc_law.nd resF_ok (pit_seq (pv_var (L2.pv 7))) (blkOk_by (by kernel_rfl)) (by decide) (fun q => (pt_name sc_law.nd rfl (Or.inl rfl))) (fun q => (ptst_one (pb_isN (pv_call h__law_forced hr (by omega) (by rfl) takes0 (pl_cons (pv_var (L2.pv 5)) (pl_cons (pv_tup (pl_cons (pv_un un_neg fn_neg (pv_var (L2.pv 16))) pl_nil)) pl_nil)))))) (fun q => (pv_var (L2.pv 16)))) pl_nil)))
  (pms_cons (pm_if (pb_not (pb_val (pv_call h__law_same hr (by omega) (by rfl) tkF (pl_cons (pv_call h__law_ask hr (by omega) (by rfl) tkF (pl_cons pv_int (pl_cons (pv_lst (pl_cons (pv_var (L2.pv 4)) (pl_cons (pv_var (L2.pv 5)) pl_nil))) pl_nil))) (pl_cons (pv_lst (pl_cons (pv_var (L2.pv 8)) pl_nil)) pl_nil))))) (pms_one (pm_ret pv_bl)) pms_nil)
  (pms_cons (pm_if (pb_not (pb_val (pv_callB (cr_all rfl) fn_all (by rfl) T.b_all (by decide +kernel) (pl_cons (pv_lc (own := [("truths", 17)]) rfl sc_law.nd resF_ok (pit_seq (pv_var (L2.pv 6))) (blkOk_by (by kernel_rfl)) (by decide) (fun q => (pt_name sc_law.nd rfl (Or.inr rfl))) (fun q => ptst_nil) (fun q => by exact (pv_callB (cr_all rfl) fn_all (by rfl) T.b_all (by decide +kernel) (pl_cons (by exact (pv_lc (own := [("k", 16)]) (wi := iSeq K _) rfl sc_law.nd resF_ok (pit_seq (pv_var (L2.pv 8))) (blkOk_by (by kernel_rfl)) (by decide) (fun q => (pt_name sc_law.nd rfl (Or.inl rfl))) (fun q => ptst_nil) (fun q => (pv_cmp (op_eqM hr.units) fn_eq (pv_ix ix_seq fn_ix (pv_var (L2.pv 17)) (pv_op op_sub fn_sub (pv_callB call_abs fn_abs (by rfl) T.b_abs (by decide +kernel) (pl_cons (pv_var (L2.pv 16)) pl_nil)) pv_int)) (pv_cmp op_gt fn_gt (pv_var (L2.pv 16)) pv_int (by rfl)) (by rfl))))) pl_nil)))) pl_nil)))) (pms_one (pm_ret pv_bl)) pms_nil)
  (pms_cons (pm_for psF rfl (pit_range1 (by rfl) T.b_range (pl_cons pv_int pl_nil)) (pt_name sc_law.nd rfl (Or.inl rfl))
  (pms_cons (pm_set (i := 10) sc_law.nd rfl (Or.inl rfl) (pv_call h__law_some_clause hr (by omega) (by rfl) tkF (pl_cons (pv_var (L2.pv 2)) (pl_cons (pv_var (L2.pv 4)) (pl_cons pv_int pl_nil)))))
  (pms_cons (pm_if (pb_not (pb_val (pv_call h__law_facts_right hr (by omega) (by rfl) tkF (pl_cons (pv_var (L2.pv 4)) (pl_cons (pv_var (L2.pv 5)) (pl_cons (pv_var (L2.pv 10)) (pl_cons (pv_var (L2.pv 6)) pl_nil))))))) (pms_one (pm_ret pv_bl)) pms_nil)
  (pms_one (pm_for psF rfl (pit_seq (pv_lst (pl_cons (pv_var (L2.pv 10)) (pl_cons (pv_call h__law_bent hr (by omega) (by rfl) tkF (pl_cons (pv_var (L2.pv 2)) (pl_cons (pv_var (L2.pv 10)) pl_nil))) (pl_cons (pv_tup pl_nil) (pl_cons (pv_op op_addA fn_add (pv_var (L2.pv 10)) (pv_tup (pl_cons (pv_op op_addA fn_add (pv_var (L2.pv 4)) pv_int) pl_nil))) (pl_cons (pv_callTy call_list_of fn_list (by rfl) T.b_list (by decide +kernel) (pl_cons (pv_var (L2.pv 10)) pl_nil)) (pl_cons (pv_tup (pl_cons pv_int (pl_cons (pv_un un_neg fn_neg pv_int) pl_nil))) (pl_cons pv_non pl_nil))))))))) (pt_name sc_law.nd rfl (Or.inl rfl))
  (pms_cons (pm_set (i := 12) sc_law.nd rfl (Or.inl rfl) (pv_call h__law_is_clause hr (by omega) (by rfl) tkF (pl_cons (pv_var (L2.pv 4)) (pl_cons (pv_var (L2.pv 11)) pl_nil))))
  (pms_one (pm_for psF rfl (pit_seq (pv_lst (pl_cons pv_int (pl_cons pv_int pl_nil)))) (pt_name sc_law.nd rfl (Or.inl rfl))
  (pms_cons (pm_set (i := 14) sc_law.nd rfl (Or.inl rfl) (pv_ifExp (pb_val (pv_var (L2.pv 12))) (pv_call h__law_due hr (by omega) (by rfl) tkF (pl_cons (pv_var (L2.pv 13)) (pl_cons (pv_var (L2.pv 4)) (pl_cons (pv_var (L2.pv 5)) (pl_cons (pv_var (L2.pv 11)) pl_nil))))) pv_str))
  (pms_one (pm_if (pb_not (pb_val (pv_call h__law_same hr (by omega) (by rfl) tkF (pl_cons (pv_call h__law_ask hr (by omega) (by rfl) tkF (pl_cons (pv_var (L2.pv 13)) (pl_cons (pv_lst (pl_cons (pv_var (L2.pv 4)) (pl_cons (pv_var (L2.pv 5)) (pl_cons (pv_var (L2.pv 11)) pl_nil)))) pl_nil))) (pl_cons (pv_var (L2.pv 14)) pl_nil))))) (pms_one (pm_ret pv_bl)) pms_nil)))))))))))
  (pms_cons (pm_set (i := 15) sc_law.nd rfl (Or.inr rfl) (pv_call h__law_no_clauses hr (by omega) (by rfl) tkF (pl_cons (pv_var (L2.pv 2)) (pl_cons (pv_var (L2.pv 4)) pl_nil))))
  (pms_cons (pm_if (pb_cmp (op_neM hr.units) fn_ne (pv_lc (own := [("which", 13)]) rfl sc_law.nd resF_ok (pit_range1 (by rfl) T.b_range (pl_cons pv_int pl_nil)) (blkOk_by (by kernel_rfl)) (by decide) (fun q => (pt_name sc_law.nd rfl (Or.inl rfl))) (fun q => ptst_nil) (fun q => (pv_call h__law_ask hr (by omega) (by rfl) takes0 (pl_cons (pv_var (L2.pv 13)) (pl_cons (pv_lst (pl_cons (pv_var (L2.pv 4)) (pl_cons (pv_var (L2.pv 15)) (pl_cons pv_non pl_nil)))) pl_nil))))) (pv_rep (pl_cons pv_str pl_nil) pv_int) (by rfl)) (pms_one (pm_ret pv_bl)) pms_nil)
  (pms_one (pm_if (pb_cmp (op_neM hr.units) fn_ne (pv_lc (own := [("which", 13)]) rfl sc_law.nd resF_ok (pit_range1 (by rfl) T.b_range (pl_cons pv_int pl_nil)) (blkOk_by (by kernel_rfl)) (by decide) (fun q => (pt_name sc_law.nd rfl (Or.inl rfl))) (fun q => ptst_nil) (fun q => (pv_call h__law_ask hr (by omega) (by rfl) takes0 (pl_cons (pv_var (L2.pv 13)) (pl_cons (pv_lst (pl_cons (pv_call h__law_pick hr (by omega) (by rfl) takes0 (pl_cons (pv_var (L2.pv 2)) (pl_cons (pv_lst (pl_cons (pv_un un_neg fn_neg pv_int) (pl_cons pv_non (pl_cons pv_bl (pl_cons pv_str pl_nil))))) pl_nil))) (pl_cons (pv_var (L2.pv 15)) (pl_cons pv_non pl_nil)))) pl_nil))))) (pv_rep (pl_cons pv_str pl_nil) pv_int) (by rfl)) (pms_one (pm_ret pv_bl)) pms_nil)))))))))))))))
  (pms_one (pm_ret pv_bl))⟩) hm
end K14

set_option Elab.async false
set_option maxRecDepth 100000
set_option linter.all false
set_option maxHeartbeats 4000000
namespace K14
open PySem hiding ret
open Mir
open Classical

theorem is_integer_ok {v : D} (h : Ty v = true) (S : Store) : m_is_integer [v] S = .ok (.bl (isInt v)) S := by
  unfold m_is_integer
  simp only [e_fnRun, e_bnd, e_bndS, e_seq, e_if, e_ret, e_retN, e_set, e_expr, e_raise, e_nil, e_par, e_asg, e_sub, e_args0, e_args1, e_rt, e_some, e_var, e_k, e_call, e_un, e_op, e_test, e_boolD, e_bAnd, e_bOr, e_bNot, e_mAnd, e_mOr, e_mNot, e_mIf, e_chain, e_tup, e_lst, e_own, e_isN, e_notN, e_part, e_noPart, e_intD, e_sl, e_seqM, e_its, e_tupM, e_lstM, e_yes, e_el, e_gtN, e_gtNil, e_gtCons, e_gtTup, e_addI, e_subI, e_ltI, e_leI, e_gtI, e_geI, e_negI, e_lenT, e_lenL, e_tupT, e_tupL, e_lstT, e_slT, e_slL, e_ix0, e_ix1, e_ix2, e_il0, e_il1, e_il2, D.isNon, List.map_cons, List.map_nil, List.cons_append, List.nil_append, List.length_cons, List.length_nil, Nat.reduceAdd, Nat.reduceSub, List.replicate_succ, List.replicate_zero, List.set_cons_zero, List.set_cons_succ, List.getElem?_cons_zero, List.getElem?_cons_succ, Option.join_some, wipeE, if_true, if_false, reduceIte, Bool.false_eq_true, Bool.not_true, Bool.not_false, ty_int h, ty_bool h]
  cases v <;> first | (cases h; done) | rfl
theorem law_int_ok {v : D} (h : Ty v = true) (S : Store) : m__law_int [v] S = .ok (.bl (isInt v)) S := by
  unfold m__law_int
  simp only [e_fnRun, e_bnd, e_bndS, e_seq, e_if, e_ret, e_retN, e_set, e_expr, e_raise, e_nil, e_par, e_asg, e_sub, e_args0, e_args1, e_rt, e_some, e_var, e_k, e_call, e_un, e_op, e_test, e_boolD, e_bAnd, e_bOr, e_bNot, e_mAnd, e_mOr, e_mNot, e_mIf, e_chain, e_tup, e_lst, e_own, e_isN, e_notN, e_part, e_noPart, e_intD, e_sl, e_seqM, e_its, e_tupM, e_lstM, e_yes, e_el, e_gtN, e_gtNil, e_gtCons, e_gtTup, e_addI, e_subI, e_ltI, e_leI, e_gtI, e_geI, e_negI, e_lenT, e_lenL, e_tupT, e_tupL, e_lstT, e_slT, e_slL, e_ix0, e_ix1, e_ix2, e_il0, e_il1, e_il2, D.isNon, List.map_cons, List.map_nil, List.cons_append, List.nil_append, List.length_cons, List.length_nil, Nat.reduceAdd, Nat.reduceSub, List.replicate_succ, List.replicate_zero, List.set_cons_zero, List.set_cons_succ, List.getElem?_cons_zero, List.getElem?_cons_succ, Option.join_some, wipeE, if_true, if_false, reduceIte, Bool.false_eq_true, Bool.not_true, Bool.not_false, ty_int h, ty_bool h]
  cases v <;> first | (cases h; done) | rfl
/-- a value whose items, if it is a tuple, can be told, and not too many -/
def Pt (v : D) : Prop := Ty v = true ∧ ∀ xs, v = .tup xs → xs.length ≤ 50 ∧ ∀ x ∈ xs, Ty x = true
/-- a clause of numbers up to c -/
def Cl (c : Int) (ns : List Int) : Prop := (∀ k ∈ ns, k ≠ 0 ∧ -c ≤ k ∧ k ≤ c) ∧ ns.Pairwise (· < ·) ∧ ∀ k ∈ ns, -k ∉ ns
def Cl0 (ns : List Int) : Prop := (∀ k ∈ ns, k ≠ 0) ∧ ns.Pairwise (· < ·) ∧ ∀ k ∈ ns, -k ∉ ns
noncomputable def clD (p : List Int → Prop) : D → Bool
  | .tup xs => match intsOf xs with
    | some ns => decide (p ns)
    | none => false
  | _ => false
theorem absI (i : Int) : (if i < 0 then -i else i) = ((i.natAbs : Nat) : Int) := by split <;> omega
theorem ascends_ok {ns : List Int} (hz : ns.length ≤ 50) (S : Store) : m_ascends [.tup (ns.map .int)] S = .ok (.bl (decide (ns.Pairwise (· < ·)))) S := by
  have hl : lenD [.tup (ns.map D.int)] S = .ok (.int ns.length) S := by simp only [lenD, seqOf, List.length_map]
  have hr : range1M [.int ((ns.length : Nat) - 1 : Int)] S = .ok (rangeD 0 (ns.length - 1), fun _ => True) S := by
    simp only [range1M]
    rw [if_pos ⟨by omega, by omega⟩]
    congr 3
    omega
  have h1 : mLc [1] (mIts range1M [(mOp subD (mCall lenD [(mVar 0)]) (mK (.int 1)))]) (gtN 1) bYes (mOp ltD (mOp ixD (mVar 0) (mVar 1)) (mOp ixD (mVar 0) (mOp addD (mVar 1) (mK (.int 1))))) resF [some (.tup (ns.map .int)), none] S
      = .ok (.lst ((List.range (ns.length - 1)).map fun i => .bl (decide (ns.getD i 0 < ns.getD (i + 1) 0)))) S := by
    have := mLc_map (own := [1]) (f := gtN 1) (mt := bYes) (me := mOp ltD (mOp ixD (mVar 0) (mVar 1)) (mOp ixD (mVar 0) (mOp addD (mVar 1) (mK (.int 1))))) (env := [some (.tup (ns.map .int)), none]) (S := S) (mi := mIts range1M [(mOp subD (mCall lenD [(mVar 0)]) (mK (.int 1)))]) (ds := rangeD 0 (ns.length - 1)) (g := fun _ => True)
      (by simp only [e_fnRun, e_bnd, e_bndS, e_seq, e_if, e_ret, e_retN, e_set, e_expr, e_raise, e_nil, e_par, e_asg, e_sub, e_args0, e_args1, e_rt, e_some, e_var, e_k, e_call, e_un, e_op, e_test, e_boolD, e_bAnd, e_bOr, e_bNot, e_mAnd, e_mOr, e_mNot, e_mIf, e_chain, e_tup, e_lst, e_own, e_isN, e_notN, e_part, e_noPart, e_intD, e_sl, e_seqM, e_its, e_tupM, e_lstM, e_yes, e_el, e_gtN, e_gtNil, e_gtCons, e_gtTup, e_addI, e_subI, e_ltI, e_leI, e_gtI, e_geI, e_negI, e_lenT, e_lenL, e_tupT, e_tupL, e_lstT, e_slT, e_slL, e_ix0, e_ix1, e_ix2, e_il0, e_il1, e_il2, D.isNon, List.map_cons, List.map_nil, List.cons_append, List.nil_append, List.length_cons, List.length_nil, Nat.reduceAdd, Nat.reduceSub, List.replicate_succ, List.replicate_zero, List.set_cons_zero, List.set_cons_succ, List.getElem?_cons_zero, List.getElem?_cons_succ, Option.join_some, wipeE, if_true, if_false, reduceIte, Bool.false_eq_true, Bool.not_true, Bool.not_false, hl]; exact hr) trivial (fun d => match d with | .int i => .bl (decide (ns.getD i.toNat 0 < ns.getD (i.toNat + 1) 0)) | _ => .non) (fun d hd => by
        obtain ⟨i, hi, rfl⟩ : ∃ i : Nat, i < ns.length - 1 ∧ d = .int (0 + i) := by
          obtain ⟨j, hj⟩ := List.mem_iff_getElem?.mp hd
          exact ⟨j, rangeD_get hj⟩
        have e1 : ∀ j : Nat, j < ns.length → ixD (.tup (ns.map D.int)) (.int (j : Int)) S = .ok (.int (ns.getD j 0)) S := fun j hj => by
          have a1 : L2.atI (ns.map D.int) (j : Int) = some (.int (ns.getD j 0)) := by
            unfold L2.atI L2.ixN
            simp [hj]
          simp only [ixD, seqOf, a1]
        unfold elD
        simp only [e_fnRun, e_bnd, e_bndS, e_seq, e_if, e_ret, e_retN, e_set, e_expr, e_raise, e_nil, e_par, e_asg, e_sub, e_args0, e_args1, e_rt, e_some, e_var, e_k, e_call, e_un, e_op, e_test, e_boolD, e_bAnd, e_bOr, e_bNot, e_mAnd, e_mOr, e_mNot, e_mIf, e_chain, e_tup, e_lst, e_own, e_isN, e_notN, e_part, e_noPart, e_intD, e_sl, e_seqM, e_its, e_tupM, e_lstM, e_yes, e_el, e_gtN, e_gtNil, e_gtCons, e_gtTup, e_addI, e_subI, e_ltI, e_leI, e_gtI, e_geI, e_negI, e_lenT, e_lenL, e_tupT, e_tupL, e_lstT, e_slT, e_slL, e_ix0, e_ix1, e_ix2, e_il0, e_il1, e_il2, D.isNon, List.map_cons, List.map_nil, List.cons_append, List.nil_append, List.length_cons, List.length_nil, Nat.reduceAdd, Nat.reduceSub, List.replicate_succ, List.replicate_zero, List.set_cons_zero, List.set_cons_succ, List.getElem?_cons_zero, List.getElem?_cons_succ, Option.join_some, wipeE, if_true, if_false, reduceIte, Bool.false_eq_true, Bool.not_true, Bool.not_false, Int.zero_add, e1 i (by omega), addD]
        rw [show ((i : Int) + 1) = ((i + 1 : Nat) : Int) by omega]
        simp only [e_fnRun, e_bnd, e_bndS, e_seq, e_if, e_ret, e_retN, e_set, e_expr, e_raise, e_nil, e_par, e_asg, e_sub, e_args0, e_args1, e_rt, e_some, e_var, e_k, e_call, e_un, e_op, e_test, e_boolD, e_bAnd, e_bOr, e_bNot, e_mAnd, e_mOr, e_mNot, e_mIf, e_chain, e_tup, e_lst, e_own, e_isN, e_notN, e_part, e_noPart, e_intD, e_sl, e_seqM, e_its, e_tupM, e_lstM, e_yes, e_el, e_gtN, e_gtNil, e_gtCons, e_gtTup, e_addI, e_subI, e_ltI, e_leI, e_gtI, e_geI, e_negI, e_lenT, e_lenL, e_tupT, e_tupL, e_lstT, e_slT, e_slL, e_ix0, e_ix1, e_ix2, e_il0, e_il1, e_il2, D.isNon, List.map_cons, List.map_nil, List.cons_append, List.nil_append, List.length_cons, List.length_nil, Nat.reduceAdd, Nat.reduceSub, List.replicate_succ, List.replicate_zero, List.set_cons_zero, List.set_cons_succ, List.getElem?_cons_zero, List.getElem?_cons_succ, Option.join_some, wipeE, if_true, if_false, reduceIte, Bool.false_eq_true, Bool.not_true, Bool.not_false, e1 (i + 1) (by omega)]
        rfl)
    rw [this]
    congr 2
    unfold rangeD
    rw [List.map_map]
    refine List.map_congr_left fun i _ => ?_
    simp
  unfold m_ascends
  simp only [e_fnRun, e_bnd, e_bndS, e_seq, e_if, e_ret, e_retN, e_set, e_expr, e_raise, e_nil, e_par, e_asg, e_sub, e_args0, e_args1, e_rt, e_some, e_var, e_k, e_call, e_un, e_op, e_test, e_boolD, e_bAnd, e_bOr, e_bNot, e_mAnd, e_mOr, e_mNot, e_mIf, e_chain, e_tup, e_lst, e_own, e_isN, e_notN, e_part, e_noPart, e_intD, e_sl, e_seqM, e_its, e_tupM, e_lstM, e_yes, e_el, e_gtN, e_gtNil, e_gtCons, e_gtTup, e_addI, e_subI, e_ltI, e_leI, e_gtI, e_geI, e_negI, e_lenT, e_lenL, e_tupT, e_tupL, e_lstT, e_slT, e_slL, e_ix0, e_ix1, e_ix2, e_il0, e_il1, e_il2, D.isNon, List.map_cons, List.map_nil, List.cons_append, List.nil_append, List.length_cons, List.length_nil, Nat.reduceAdd, Nat.reduceSub, List.replicate_succ, List.replicate_zero, List.set_cons_zero, List.set_cons_succ, List.getElem?_cons_zero, List.getElem?_cons_succ, Option.join_some, wipeE, if_true, if_false, reduceIte, Bool.false_eq_true, Bool.not_true, Bool.not_false, h1, all_map]
  congr 2
  -- neighbours that ascend
  have key : ∀ ms : List Int, (List.range (ms.length - 1)).all (fun i => decide (ms.getD i 0 < ms.getD (i + 1) 0)) = decide (ms.Pairwise (· < ·)) := by
    intro ms
    rw [Bool.eq_iff_iff, List.all_eq_true, decide_eq_true_eq]
    constructor
    · intro h
      induction ms with
      | nil => exact List.Pairwise.nil
      | cons a ms ih =>
        have h' : ms.Pairwise (· < ·) := ih fun i hi => by
          have := h (i + 1) (by simp at hi ⊢; omega)
          simpa using this
        refine List.pairwise_cons.mpr ⟨fun b hb => ?_, h'⟩
        cases ms with
        | nil => cases hb
        | cons c ms =>
          have h0 := h 0 (by simp)
          have h0' : a < c := by simpa using h0
          rcases List.mem_cons.mp hb with e | hb
          · omega
          · have := (List.pairwise_cons.mp h').1 b hb; omega
    · intro h i hi
      rw [List.mem_range] at hi
      have h1 : i < ms.length := by omega
      have h2 : i + 1 < ms.length := by omega
      have := List.pairwise_iff_getElem.mp h i (i + 1) h1 h2 (by omega)
      rw [decide_eq_true_eq, List.getD_eq_getElem?_getD, List.getD_eq_getElem?_getD, List.getElem?_eq_getElem h1, List.getElem?_eq_getElem h2]
      exact this
  exact key ns
theorem intsOf_none {xs : List D} (h : xs.all isInt = false) : intsOf xs = none := by
  have := intsOf_all xs
  rw [h] at this
  cases q : intsOf xs with
  | none => rfl
  | some ns => rw [q] at this; cases this
theorem intsOf_some {xs : List D} (h : xs.all isInt = true) : ∃ ns : List Int, xs = ns.map D.int := by
  have := intsOf_all xs
  rw [h] at this
  cases q : intsOf xs with
  | none => rw [q] at this; cases this
  | some ns => exact ⟨ns, intsOf_eq q⟩
theorem clD_ints (p : List Int → Prop) (ns : List Int) : clD p (.tup (ns.map .int)) = decide (p ns) := by simp only [clD, intsOf_map]
theorem clD_not {p : List Int → Prop} {xs : List D} (h : xs.all isInt = false) : clD p (.tup xs) = false := by simp only [clD, intsOf_none h]
theorem nodup_abs {ns : List Int} (h0 : ∀ k ∈ ns, k ≠ 0) (h : ns.Pairwise (· < ·)) : (ns.map fun k => (if k < 0 then -k else k)).Nodup ↔ ∀ k ∈ ns, -k ∉ ns := by
  constructor
  · intro hn k hk hk'
    obtain ⟨i, hi, ei⟩ := List.getElem_of_mem hk
    obtain ⟨j, hj, ej⟩ := List.getElem_of_mem hk'
    have e : (ns.map fun k => (if k < 0 then -k else k))[i]'(by simpa using hi) = (ns.map fun k => (if k < 0 then -k else k))[j]'(by simpa using hj) := by
      simp only [List.getElem_map, ei, ej]
      split <;> split <;> omega
    have hp := List.pairwise_iff_getElem.mp hn
    have z := h0 k hk
    rcases Nat.lt_trichotomy i j with hij | hij | hij
    · exact hp i j (by simpa using hi) (by simpa using hj) hij e
    · subst hij; omega
    · exact hp j i (by simpa using hj) (by simpa using hi) hij e.symm
  · intro hk
    refine List.Pairwise.map (R := fun a b => a < b ∧ a ∈ ns ∧ b ∈ ns) _ ?_ (List.Pairwise.imp_of_mem ?_ h)
    · exact fun a b (hab : a < b ∧ a ∈ ns ∧ b ∈ ns) => by
        intro e
        have h1 := hk a hab.2.1
        have h3 := h0 a hab.2.1
        have : b = -a := by split at e <;> split at e <;> omega
        rw [← this] at h1
        exact h1 hab.2.2
    · exact fun ha hb hab => ⟨hab, ha, hb⟩
theorem is_integer_clause_ok {c : Int} {v : D} (h : Pt v) (S : Store) : m_is_integer_clause [.int c, v] S = .ok (.bl (clD (Cl c) v)) S := by
  obtain ⟨hT, hI⟩ := h
  cases v with
  | tup xs =>
    obtain ⟨hz, hx⟩ := hI xs rfl
    have h1 : mLc [2] (mSeq (mVar 1)) (gtN 2) bYes (mCall m_is_integer [mVar 2]) resF [some (.int c), some (.tup xs), none] S = .ok (.lst (xs.map fun d => .bl (isInt d))) S :=
      mLcT_map (by simp only [e_fnRun, e_bnd, e_bndS, e_seq, e_if, e_ret, e_retN, e_set, e_expr, e_raise, e_nil, e_par, e_asg, e_sub, e_args0, e_args1, e_rt, e_some, e_var, e_k, e_call, e_un, e_op, e_test, e_boolD, e_bAnd, e_bOr, e_bNot, e_mAnd, e_mOr, e_mNot, e_mIf, e_chain, e_tup, e_lst, e_own, e_isN, e_notN, e_part, e_noPart, e_intD, e_sl, e_seqM, e_its, e_tupM, e_lstM, e_yes, e_el, e_gtN, e_gtNil, e_gtCons, e_gtTup, e_addI, e_subI, e_ltI, e_leI, e_gtI, e_geI, e_negI, e_lenT, e_lenL, e_tupT, e_tupL, e_lstT, e_slT, e_slL, e_ix0, e_ix1, e_ix2, e_il0, e_il1, e_il2, D.isNon, List.map_cons, List.map_nil, List.cons_append, List.nil_append, List.length_cons, List.length_nil, Nat.reduceAdd, Nat.reduceSub, List.replicate_succ, List.replicate_zero, List.set_cons_zero, List.set_cons_succ, List.getElem?_cons_zero, List.getElem?_cons_succ, Option.join_some, wipeE, if_true, if_false, reduceIte, Bool.false_eq_true, Bool.not_true, Bool.not_false]) _ fun d hd => by simp only [e_fnRun, e_bnd, e_bndS, e_seq, e_if, e_ret, e_retN, e_set, e_expr, e_raise, e_nil, e_par, e_asg, e_sub, e_args0, e_args1, e_rt, e_some, e_var, e_k, e_call, e_un, e_op, e_test, e_boolD, e_bAnd, e_bOr, e_bNot, e_mAnd, e_mOr, e_mNot, e_mIf, e_chain, e_tup, e_lst, e_own, e_isN, e_notN, e_part, e_noPart, e_intD, e_sl, e_seqM, e_its, e_tupM, e_lstM, e_yes, e_el, e_gtN, e_gtNil, e_gtCons, e_gtTup, e_addI, e_subI, e_ltI, e_leI, e_gtI, e_geI, e_negI, e_lenT, e_lenL, e_tupT, e_tupL, e_lstT, e_slT, e_slL, e_ix0, e_ix1, e_ix2, e_il0, e_il1, e_il2, D.isNon, List.map_cons, List.map_nil, List.cons_append, List.nil_append, List.length_cons, List.length_nil, Nat.reduceAdd, Nat.reduceSub, List.replicate_succ, List.replicate_zero, List.set_cons_zero, List.set_cons_succ, List.getElem?_cons_zero, List.getElem?_cons_succ, Option.join_some, wipeE, if_true, if_false, reduceIte, Bool.false_eq_true, Bool.not_true, Bool.not_false, is_integer_ok (hx d hd)]
    unfold m_is_integer_clause
    simp only [e_fnRun, e_bnd, e_bndS, e_seq, e_if, e_ret, e_retN, e_set, e_expr, e_raise, e_nil, e_par, e_asg, e_sub, e_args0, e_args1, e_rt, e_some, e_var, e_k, e_call, e_un, e_op, e_test, e_boolD, e_bAnd, e_bOr, e_bNot, e_mAnd, e_mOr, e_mNot, e_mIf, e_chain, e_tup, e_lst, e_own, e_isN, e_notN, e_part, e_noPart, e_intD, e_sl, e_seqM, e_its, e_tupM, e_lstM, e_yes, e_el, e_gtN, e_gtNil, e_gtCons, e_gtTup, e_addI, e_subI, e_ltI, e_leI, e_gtI, e_geI, e_negI, e_lenT, e_lenL, e_tupT, e_tupL, e_lstT, e_slT, e_slL, e_ix0, e_ix1, e_ix2, e_il0, e_il1, e_il2, D.isNon, List.map_cons, List.map_nil, List.cons_append, List.nil_append, List.length_cons, List.length_nil, Nat.reduceAdd, Nat.reduceSub, List.replicate_succ, List.replicate_zero, List.set_cons_zero, List.set_cons_succ, List.getElem?_cons_zero, List.getElem?_cons_succ, Option.join_some, wipeE, if_true, if_false, reduceIte, Bool.false_eq_true, Bool.not_true, Bool.not_false, ty_tup hT, isTup, h1, all_map]
    cases ha : xs.all isInt with
    | false =>
      simp only [e_fnRun, e_bnd, e_bndS, e_seq, e_if, e_ret, e_retN, e_set, e_expr, e_raise, e_nil, e_par, e_asg, e_sub, e_args0, e_args1, e_rt, e_some, e_var, e_k, e_call, e_un, e_op, e_test, e_boolD, e_bAnd, e_bOr, e_bNot, e_mAnd, e_mOr, e_mNot, e_mIf, e_chain, e_tup, e_lst, e_own, e_isN, e_notN, e_part, e_noPart, e_intD, e_sl, e_seqM, e_its, e_tupM, e_lstM, e_yes, e_el, e_gtN, e_gtNil, e_gtCons, e_gtTup, e_addI, e_subI, e_ltI, e_leI, e_gtI, e_geI, e_negI, e_lenT, e_lenL, e_tupT, e_tupL, e_lstT, e_slT, e_slL, e_ix0, e_ix1, e_ix2, e_il0, e_il1, e_il2, D.isNon, List.map_cons, List.map_nil, List.cons_append, List.nil_append, List.length_cons, List.length_nil, Nat.reduceAdd, Nat.reduceSub, List.replicate_succ, List.replicate_zero, List.set_cons_zero, List.set_cons_succ, List.getElem?_cons_zero, List.getElem?_cons_succ, Option.join_some, wipeE, if_true, if_false, reduceIte, Bool.false_eq_true, Bool.not_true, Bool.not_false, clD_not ha]
    | true =>
      obtain ⟨ns, rfl⟩ := intsOf_some ha
      rw [List.length_map] at hz
      have h2 : mLc [2] (mSeq (mVar 1)) (gtN 2) bYes (mAnd (mOp neD (mVar 2) (mK (.int 0))) (mChain leD leD (mUn negD (mVar 0)) (mVar 2) (mVar 0))) resF [some (.int c), some (.tup (ns.map .int)), none] S = .ok (.lst (ns.map fun k => .bl (decide (k ≠ 0 ∧ -c ≤ k ∧ k ≤ c)))) S :=
        mLcT_ints (by simp only [e_fnRun, e_bnd, e_bndS, e_seq, e_if, e_ret, e_retN, e_set, e_expr, e_raise, e_nil, e_par, e_asg, e_sub, e_args0, e_args1, e_rt, e_some, e_var, e_k, e_call, e_un, e_op, e_test, e_boolD, e_bAnd, e_bOr, e_bNot, e_mAnd, e_mOr, e_mNot, e_mIf, e_chain, e_tup, e_lst, e_own, e_isN, e_notN, e_part, e_noPart, e_intD, e_sl, e_seqM, e_its, e_tupM, e_lstM, e_yes, e_el, e_gtN, e_gtNil, e_gtCons, e_gtTup, e_addI, e_subI, e_ltI, e_leI, e_gtI, e_geI, e_negI, e_lenT, e_lenL, e_tupT, e_tupL, e_lstT, e_slT, e_slL, e_ix0, e_ix1, e_ix2, e_il0, e_il1, e_il2, D.isNon, List.map_cons, List.map_nil, List.cons_append, List.nil_append, List.length_cons, List.length_nil, Nat.reduceAdd, Nat.reduceSub, List.replicate_succ, List.replicate_zero, List.set_cons_zero, List.set_cons_succ, List.getElem?_cons_zero, List.getElem?_cons_succ, Option.join_some, wipeE, if_true, if_false, reduceIte, Bool.false_eq_true, Bool.not_true, Bool.not_false]) _ fun k hk => by
          simp only [e_fnRun, e_bnd, e_bndS, e_seq, e_if, e_ret, e_retN, e_set, e_expr, e_raise, e_nil, e_par, e_asg, e_sub, e_args0, e_args1, e_rt, e_some, e_var, e_k, e_call, e_un, e_op, e_test, e_boolD, e_bAnd, e_bOr, e_bNot, e_mAnd, e_mOr, e_mNot, e_mIf, e_chain, e_tup, e_lst, e_own, e_isN, e_notN, e_part, e_noPart, e_intD, e_sl, e_seqM, e_its, e_tupM, e_lstM, e_yes, e_el, e_gtN, e_gtNil, e_gtCons, e_gtTup, e_addI, e_subI, e_ltI, e_leI, e_gtI, e_geI, e_negI, e_lenT, e_lenL, e_tupT, e_tupL, e_lstT, e_slT, e_slL, e_ix0, e_ix1, e_ix2, e_il0, e_il1, e_il2, D.isNon, List.map_cons, List.map_nil, List.cons_append, List.nil_append, List.length_cons, List.length_nil, Nat.reduceAdd, Nat.reduceSub, List.replicate_succ, List.replicate_zero, List.set_cons_zero, List.set_cons_succ, List.getElem?_cons_zero, List.getElem?_cons_succ, Option.join_some, wipeE, if_true, if_false, reduceIte, Bool.false_eq_true, Bool.not_true, Bool.not_false, ne_int]
          by_cases k0 : k = 0
          · simp only [e_fnRun, e_bnd, e_bndS, e_seq, e_if, e_ret, e_retN, e_set, e_expr, e_raise, e_nil, e_par, e_asg, e_sub, e_args0, e_args1, e_rt, e_some, e_var, e_k, e_call, e_un, e_op, e_test, e_boolD, e_bAnd, e_bOr, e_bNot, e_mAnd, e_mOr, e_mNot, e_mIf, e_chain, e_tup, e_lst, e_own, e_isN, e_notN, e_part, e_noPart, e_intD, e_sl, e_seqM, e_its, e_tupM, e_lstM, e_yes, e_el, e_gtN, e_gtNil, e_gtCons, e_gtTup, e_addI, e_subI, e_ltI, e_leI, e_gtI, e_geI, e_negI, e_lenT, e_lenL, e_tupT, e_tupL, e_lstT, e_slT, e_slL, e_ix0, e_ix1, e_ix2, e_il0, e_il1, e_il2, D.isNon, List.map_cons, List.map_nil, List.cons_append, List.nil_append, List.length_cons, List.length_nil, Nat.reduceAdd, Nat.reduceSub, List.replicate_succ, List.replicate_zero, List.set_cons_zero, List.set_cons_succ, List.getElem?_cons_zero, List.getElem?_cons_succ, Option.join_some, wipeE, if_true, if_false, reduceIte, Bool.false_eq_true, Bool.not_true, Bool.not_false, k0, decide_true, ne_eq, not_true, false_and, decide_false]
          · simp only [e_fnRun, e_bnd, e_bndS, e_seq, e_if, e_ret, e_retN, e_set, e_expr, e_raise, e_nil, e_par, e_asg, e_sub, e_args0, e_args1, e_rt, e_some, e_var, e_k, e_call, e_un, e_op, e_test, e_boolD, e_bAnd, e_bOr, e_bNot, e_mAnd, e_mOr, e_mNot, e_mIf, e_chain, e_tup, e_lst, e_own, e_isN, e_notN, e_part, e_noPart, e_intD, e_sl, e_seqM, e_its, e_tupM, e_lstM, e_yes, e_el, e_gtN, e_gtNil, e_gtCons, e_gtTup, e_addI, e_subI, e_ltI, e_leI, e_gtI, e_geI, e_negI, e_lenT, e_lenL, e_tupT, e_tupL, e_lstT, e_slT, e_slL, e_ix0, e_ix1, e_ix2, e_il0, e_il1, e_il2, D.isNon, List.map_cons, List.map_nil, List.cons_append, List.nil_append, List.length_cons, List.length_nil, Nat.reduceAdd, Nat.reduceSub, List.replicate_succ, List.replicate_zero, List.set_cons_zero, List.set_cons_succ, List.getElem?_cons_zero, List.getElem?_cons_succ, Option.join_some, wipeE, if_true, if_false, reduceIte, Bool.false_eq_true, Bool.not_true, Bool.not_false, k0, decide_false, ne_eq, not_false_eq_true, true_and]
            by_cases k1 : -c ≤ k
            · simp only [e_fnRun, e_bnd, e_bndS, e_seq, e_if, e_ret, e_retN, e_set, e_expr, e_raise, e_nil, e_par, e_asg, e_sub, e_args0, e_args1, e_rt, e_some, e_var, e_k, e_call, e_un, e_op, e_test, e_boolD, e_bAnd, e_bOr, e_bNot, e_mAnd, e_mOr, e_mNot, e_mIf, e_chain, e_tup, e_lst, e_own, e_isN, e_notN, e_part, e_noPart, e_intD, e_sl, e_seqM, e_its, e_tupM, e_lstM, e_yes, e_el, e_gtN, e_gtNil, e_gtCons, e_gtTup, e_addI, e_subI, e_ltI, e_leI, e_gtI, e_geI, e_negI, e_lenT, e_lenL, e_tupT, e_tupL, e_lstT, e_slT, e_slL, e_ix0, e_ix1, e_ix2, e_il0, e_il1, e_il2, D.isNon, List.map_cons, List.map_nil, List.cons_append, List.nil_append, List.length_cons, List.length_nil, Nat.reduceAdd, Nat.reduceSub, List.replicate_succ, List.replicate_zero, List.set_cons_zero, List.set_cons_succ, List.getElem?_cons_zero, List.getElem?_cons_succ, Option.join_some, wipeE, if_true, if_false, reduceIte, Bool.false_eq_true, Bool.not_true, Bool.not_false, k1, decide_true, true_and]
            · simp only [e_fnRun, e_bnd, e_bndS, e_seq, e_if, e_ret, e_retN, e_set, e_expr, e_raise, e_nil, e_par, e_asg, e_sub, e_args0, e_args1, e_rt, e_some, e_var, e_k, e_call, e_un, e_op, e_test, e_boolD, e_bAnd, e_bOr, e_bNot, e_mAnd, e_mOr, e_mNot, e_mIf, e_chain, e_tup, e_lst, e_own, e_isN, e_notN, e_part, e_noPart, e_intD, e_sl, e_seqM, e_its, e_tupM, e_lstM, e_yes, e_el, e_gtN, e_gtNil, e_gtCons, e_gtTup, e_addI, e_subI, e_ltI, e_leI, e_gtI, e_geI, e_negI, e_lenT, e_lenL, e_tupT, e_tupL, e_lstT, e_slT, e_slL, e_ix0, e_ix1, e_ix2, e_il0, e_il1, e_il2, D.isNon, List.map_cons, List.map_nil, List.cons_append, List.nil_append, List.length_cons, List.length_nil, Nat.reduceAdd, Nat.reduceSub, List.replicate_succ, List.replicate_zero, List.set_cons_zero, List.set_cons_succ, List.getElem?_cons_zero, List.getElem?_cons_succ, Option.join_some, wipeE, if_true, if_false, reduceIte, Bool.false_eq_true, Bool.not_true, Bool.not_false, k1, decide_false, false_and]
      have h3 : mLc [2] (mSeq (mVar 1)) (gtN 2) bYes (mCall absD [mVar 2]) resF [some (.int c), some (.tup (ns.map .int)), none] S = .ok (.lst (ns.map fun k => .int (if k < 0 then -k else k))) S :=
        mLcT_ints (by simp only [e_fnRun, e_bnd, e_bndS, e_seq, e_if, e_ret, e_retN, e_set, e_expr, e_raise, e_nil, e_par, e_asg, e_sub, e_args0, e_args1, e_rt, e_some, e_var, e_k, e_call, e_un, e_op, e_test, e_boolD, e_bAnd, e_bOr, e_bNot, e_mAnd, e_mOr, e_mNot, e_mIf, e_chain, e_tup, e_lst, e_own, e_isN, e_notN, e_part, e_noPart, e_intD, e_sl, e_seqM, e_its, e_tupM, e_lstM, e_yes, e_el, e_gtN, e_gtNil, e_gtCons, e_gtTup, e_addI, e_subI, e_ltI, e_leI, e_gtI, e_geI, e_negI, e_lenT, e_lenL, e_tupT, e_tupL, e_lstT, e_slT, e_slL, e_ix0, e_ix1, e_ix2, e_il0, e_il1, e_il2, D.isNon, List.map_cons, List.map_nil, List.cons_append, List.nil_append, List.length_cons, List.length_nil, Nat.reduceAdd, Nat.reduceSub, List.replicate_succ, List.replicate_zero, List.set_cons_zero, List.set_cons_succ, List.getElem?_cons_zero, List.getElem?_cons_succ, Option.join_some, wipeE, if_true, if_false, reduceIte, Bool.false_eq_true, Bool.not_true, Bool.not_false]) _ fun k hk => by simp only [e_fnRun, e_bnd, e_bndS, e_seq, e_if, e_ret, e_retN, e_set, e_expr, e_raise, e_nil, e_par, e_asg, e_sub, e_args0, e_args1, e_rt, e_some, e_var, e_k, e_call, e_un, e_op, e_test, e_boolD, e_bAnd, e_bOr, e_bNot, e_mAnd, e_mOr, e_mNot, e_mIf, e_chain, e_tup, e_lst, e_own, e_isN, e_notN, e_part, e_noPart, e_intD, e_sl, e_seqM, e_its, e_tupM, e_lstM, e_yes, e_el, e_gtN, e_gtNil, e_gtCons, e_gtTup, e_addI, e_subI, e_ltI, e_leI, e_gtI, e_geI, e_negI, e_lenT, e_lenL, e_tupT, e_tupL, e_lstT, e_slT, e_slL, e_ix0, e_ix1, e_ix2, e_il0, e_il1, e_il2, D.isNon, List.map_cons, List.map_nil, List.cons_append, List.nil_append, List.length_cons, List.length_nil, Nat.reduceAdd, Nat.reduceSub, List.replicate_succ, List.replicate_zero, List.set_cons_zero, List.set_cons_succ, List.getElem?_cons_zero, List.getElem?_cons_succ, Option.join_some, wipeE, if_true, if_false, reduceIte, Bool.false_eq_true, Bool.not_true, Bool.not_false, abs_int]
      have h4 : mLenSet (mLc [2] (mSeq (mVar 1)) (gtN 2) bYes (mCall absD [mVar 2]) resF) [some (.int c), some (.tup (ns.map .int)), none] S = .ok (.int (sortU (ns.map fun k => (if k < 0 then -k else k))).length) S := by
        show bnd _ lenSet S = _
        simp only [e_fnRun, e_bnd, e_bndS, e_seq, e_if, e_ret, e_retN, e_set, e_expr, e_raise, e_nil, e_par, e_asg, e_sub, e_args0, e_args1, e_rt, e_some, e_var, e_k, e_call, e_un, e_op, e_test, e_boolD, e_bAnd, e_bOr, e_bNot, e_mAnd, e_mOr, e_mNot, e_mIf, e_chain, e_tup, e_lst, e_own, e_isN, e_notN, e_part, e_noPart, e_intD, e_sl, e_seqM, e_its, e_tupM, e_lstM, e_yes, e_el, e_gtN, e_gtNil, e_gtCons, e_gtTup, e_addI, e_subI, e_ltI, e_leI, e_gtI, e_geI, e_negI, e_lenT, e_lenL, e_tupT, e_tupL, e_lstT, e_slT, e_slL, e_ix0, e_ix1, e_ix2, e_il0, e_il1, e_il2, D.isNon, List.map_cons, List.map_nil, List.cons_append, List.nil_append, List.length_cons, List.length_nil, Nat.reduceAdd, Nat.reduceSub, List.replicate_succ, List.replicate_zero, List.set_cons_zero, List.set_cons_succ, List.getElem?_cons_zero, List.getElem?_cons_succ, Option.join_some, wipeE, if_true, if_false, reduceIte, Bool.false_eq_true, Bool.not_true, Bool.not_false, h3]
        have e : ns.map (fun k => D.int (if k < 0 then -k else k)) = (ns.map fun k => (if k < 0 then -k else k)).map D.int := by rw [List.map_map]; rfl
        simp only [lenSet, intSeq, seqOf, e, intsOf_map, List.length_map]
        rw [if_pos (by omega)]
      simp only [e_fnRun, e_bnd, e_bndS, e_seq, e_if, e_ret, e_retN, e_set, e_expr, e_raise, e_nil, e_par, e_asg, e_sub, e_args0, e_args1, e_rt, e_some, e_var, e_k, e_call, e_un, e_op, e_test, e_boolD, e_bAnd, e_bOr, e_bNot, e_mAnd, e_mOr, e_mNot, e_mIf, e_chain, e_tup, e_lst, e_own, e_isN, e_notN, e_part, e_noPart, e_intD, e_sl, e_seqM, e_its, e_tupM, e_lstM, e_yes, e_el, e_gtN, e_gtNil, e_gtCons, e_gtTup, e_addI, e_subI, e_ltI, e_leI, e_gtI, e_geI, e_negI, e_lenT, e_lenL, e_tupT, e_tupL, e_lstT, e_slT, e_slL, e_ix0, e_ix1, e_ix2, e_il0, e_il1, e_il2, D.isNon, List.map_cons, List.map_nil, List.cons_append, List.nil_append, List.length_cons, List.length_nil, Nat.reduceAdd, Nat.reduceSub, List.replicate_succ, List.replicate_zero, List.set_cons_zero, List.set_cons_succ, List.getElem?_cons_zero, List.getElem?_cons_succ, Option.join_some, wipeE, if_true, if_false, reduceIte, Bool.false_eq_true, Bool.not_true, Bool.not_false, h2, all_map, clD_ints]
      by_cases c1 : ∀ k ∈ ns, k ≠ 0 ∧ -c ≤ k ∧ k ≤ c
      · have c1' : ns.all (fun x => decide (x ≠ 0 ∧ -c ≤ x ∧ x ≤ c)) = true := by rw [List.all_eq_true]; exact fun k hk => decide_eq_true (c1 k hk)
        simp only [e_fnRun, e_bnd, e_bndS, e_seq, e_if, e_ret, e_retN, e_set, e_expr, e_raise, e_nil, e_par, e_asg, e_sub, e_args0, e_args1, e_rt, e_some, e_var, e_k, e_call, e_un, e_op, e_test, e_boolD, e_bAnd, e_bOr, e_bNot, e_mAnd, e_mOr, e_mNot, e_mIf, e_chain, e_tup, e_lst, e_own, e_isN, e_notN, e_part, e_noPart, e_intD, e_sl, e_seqM, e_its, e_tupM, e_lstM, e_yes, e_el, e_gtN, e_gtNil, e_gtCons, e_gtTup, e_addI, e_subI, e_ltI, e_leI, e_gtI, e_geI, e_negI, e_lenT, e_lenL, e_tupT, e_tupL, e_lstT, e_slT, e_slL, e_ix0, e_ix1, e_ix2, e_il0, e_il1, e_il2, D.isNon, List.map_cons, List.map_nil, List.cons_append, List.nil_append, List.length_cons, List.length_nil, Nat.reduceAdd, Nat.reduceSub, List.replicate_succ, List.replicate_zero, List.set_cons_zero, List.set_cons_succ, List.getElem?_cons_zero, List.getElem?_cons_succ, Option.join_some, wipeE, if_true, if_false, reduceIte, Bool.false_eq_true, Bool.not_true, Bool.not_false, c1', ascends_ok hz]
        by_cases c2 : ns.Pairwise (· < ·)
        · simp only [e_fnRun, e_bnd, e_bndS, e_seq, e_if, e_ret, e_retN, e_set, e_expr, e_raise, e_nil, e_par, e_asg, e_sub, e_args0, e_args1, e_rt, e_some, e_var, e_k, e_call, e_un, e_op, e_test, e_boolD, e_bAnd, e_bOr, e_bNot, e_mAnd, e_mOr, e_mNot, e_mIf, e_chain, e_tup, e_lst, e_own, e_isN, e_notN, e_part, e_noPart, e_intD, e_sl, e_seqM, e_its, e_tupM, e_lstM, e_yes, e_el, e_gtN, e_gtNil, e_gtCons, e_gtTup, e_addI, e_subI, e_ltI, e_leI, e_gtI, e_geI, e_negI, e_lenT, e_lenL, e_tupT, e_tupL, e_lstT, e_slT, e_slL, e_ix0, e_ix1, e_ix2, e_il0, e_il1, e_il2, D.isNon, List.map_cons, List.map_nil, List.cons_append, List.nil_append, List.length_cons, List.length_nil, Nat.reduceAdd, Nat.reduceSub, List.replicate_succ, List.replicate_zero, List.set_cons_zero, List.set_cons_succ, List.getElem?_cons_zero, List.getElem?_cons_succ, Option.join_some, wipeE, if_true, if_false, reduceIte, Bool.false_eq_true, Bool.not_true, Bool.not_false, c2, decide_true, h4, List.length_map, eq_int]
          congr 2
          have := nodup_abs (fun k hk => (c1 k hk).1) c2
          refine decide_eq_decide.mpr ?_
          rw [show ((sortU (ns.map fun k => (if k < 0 then -k else k))).length : Int) = (ns.length : Int) ↔ (sortU (ns.map fun k => (if k < 0 then -k else k))).length = (ns.map fun k => (if k < 0 then -k else k)).length by rw [List.length_map]; omega, sortU_len_iff, this]
          exact ⟨fun z => ⟨c1, c2, z⟩, fun z => z.2.2⟩
        · simp only [e_fnRun, e_bnd, e_bndS, e_seq, e_if, e_ret, e_retN, e_set, e_expr, e_raise, e_nil, e_par, e_asg, e_sub, e_args0, e_args1, e_rt, e_some, e_var, e_k, e_call, e_un, e_op, e_test, e_boolD, e_bAnd, e_bOr, e_bNot, e_mAnd, e_mOr, e_mNot, e_mIf, e_chain, e_tup, e_lst, e_own, e_isN, e_notN, e_part, e_noPart, e_intD, e_sl, e_seqM, e_its, e_tupM, e_lstM, e_yes, e_el, e_gtN, e_gtNil, e_gtCons, e_gtTup, e_addI, e_subI, e_ltI, e_leI, e_gtI, e_geI, e_negI, e_lenT, e_lenL, e_tupT, e_tupL, e_lstT, e_slT, e_slL, e_ix0, e_ix1, e_ix2, e_il0, e_il1, e_il2, D.isNon, List.map_cons, List.map_nil, List.cons_append, List.nil_append, List.length_cons, List.length_nil, Nat.reduceAdd, Nat.reduceSub, List.replicate_succ, List.replicate_zero, List.set_cons_zero, List.set_cons_succ, List.getElem?_cons_zero, List.getElem?_cons_succ, Option.join_some, wipeE, if_true, if_false, reduceIte, Bool.false_eq_true, Bool.not_true, Bool.not_false, c2, decide_false]
          rw [decide_eq_false (show ¬ Cl c ns from fun z => c2 z.2.1)]
      · have c1' : ns.all (fun x => decide (x ≠ 0 ∧ -c ≤ x ∧ x ≤ c)) = false := by
          rw [Bool.eq_false_iff]
          exact fun z => c1 fun k hk => of_decide_eq_true (List.all_eq_true.mp z k hk)
        simp only [e_fnRun, e_bnd, e_bndS, e_seq, e_if, e_ret, e_retN, e_set, e_expr, e_raise, e_nil, e_par, e_asg, e_sub, e_args0, e_args1, e_rt, e_some, e_var, e_k, e_call, e_un, e_op, e_test, e_boolD, e_bAnd, e_bOr, e_bNot, e_mAnd, e_mOr, e_mNot, e_mIf, e_chain, e_tup, e_lst, e_own, e_isN, e_notN, e_part, e_noPart, e_intD, e_sl, e_seqM, e_its, e_tupM, e_lstM, e_yes, e_el, e_gtN, e_gtNil, e_gtCons, e_gtTup, e_addI, e_subI, e_ltI, e_leI, e_gtI, e_geI, e_negI, e_lenT, e_lenL, e_tupT, e_tupL, e_lstT, e_slT, e_slL, e_ix0, e_ix1, e_ix2, e_il0, e_il1, e_il2, D.isNon, List.map_cons, List.map_nil, List.cons_append, List.nil_append, List.length_cons, List.length_nil, Nat.reduceAdd, Nat.reduceSub, List.replicate_succ, List.replicate_zero, List.set_cons_zero, List.set_cons_succ, List.getElem?_cons_zero, List.getElem?_cons_succ, Option.join_some, wipeE, if_true, if_false, reduceIte, Bool.false_eq_true, Bool.not_true, Bool.not_false, c1']
        rw [decide_eq_false (show ¬ Cl c ns from fun z => c1 z.1)]
  | ty n => cases hT
  | ref n => cases hT
  | _ =>
    unfold m_is_integer_clause
    simp only [e_fnRun, e_bnd, e_bndS, e_seq, e_if, e_ret, e_retN, e_set, e_expr, e_raise, e_nil, e_par, e_asg, e_sub, e_args0, e_args1, e_rt, e_some, e_var, e_k, e_call, e_un, e_op, e_test, e_boolD, e_bAnd, e_bOr, e_bNot, e_mAnd, e_mOr, e_mNot, e_mIf, e_chain, e_tup, e_lst, e_own, e_isN, e_notN, e_part, e_noPart, e_intD, e_sl, e_seqM, e_its, e_tupM, e_lstM, e_yes, e_el, e_gtN, e_gtNil, e_gtCons, e_gtTup, e_addI, e_subI, e_ltI, e_leI, e_gtI, e_geI, e_negI, e_lenT, e_lenL, e_tupT, e_tupL, e_lstT, e_slT, e_slL, e_ix0, e_ix1, e_ix2, e_il0, e_il1, e_il2, D.isNon, List.map_cons, List.map_nil, List.cons_append, List.nil_append, List.length_cons, List.length_nil, Nat.reduceAdd, Nat.reduceSub, List.replicate_succ, List.replicate_zero, List.set_cons_zero, List.set_cons_succ, List.getElem?_cons_zero, List.getElem?_cons_succ, Option.join_some, wipeE, if_true, if_false, reduceIte, Bool.false_eq_true, Bool.not_true, Bool.not_false, ty_tup hT, isTup, clD]
theorem law_is_clause_ok {c : Int} {v : D} (h : Pt v) (S : Store) : m__law_is_clause [.int c, v] S = .ok (.bl (clD (Cl c) v)) S := by
  obtain ⟨hT, hI⟩ := h
  cases v with
  | tup xs =>
    obtain ⟨hz, hx⟩ := hI xs rfl
    have hb : ∀ d ∈ xs, ∃ b : Bool, (match d with | .int k => decide (k ≠ 0 ∧ (if k < 0 then -k else k) ≤ c) | _ => false) = b := fun d _ => ⟨_, rfl⟩
    have h1 : mLc [2] (mSeq (mVar 1)) (gtN 2) bYes (mAnd (mCall m__law_int [mVar 2]) (mAnd (mOp neD (mVar 2) (mK (.int 0))) (mOp leD (mCall absD [mVar 2]) (mVar 0)))) resF [some (.int c), some (.tup xs), none] S
        = .ok (.lst (xs.map fun d => .bl (match d with | .int k => decide (k ≠ 0 ∧ (if k < 0 then -k else k) ≤ c) | _ => false))) S :=
      mLcT_map (by simp only [e_fnRun, e_bnd, e_bndS, e_seq, e_if, e_ret, e_retN, e_set, e_expr, e_raise, e_nil, e_par, e_asg, e_sub, e_args0, e_args1, e_rt, e_some, e_var, e_k, e_call, e_un, e_op, e_test, e_boolD, e_bAnd, e_bOr, e_bNot, e_mAnd, e_mOr, e_mNot, e_mIf, e_chain, e_tup, e_lst, e_own, e_isN, e_notN, e_part, e_noPart, e_intD, e_sl, e_seqM, e_its, e_tupM, e_lstM, e_yes, e_el, e_gtN, e_gtNil, e_gtCons, e_gtTup, e_addI, e_subI, e_ltI, e_leI, e_gtI, e_geI, e_negI, e_lenT, e_lenL, e_tupT, e_tupL, e_lstT, e_slT, e_slL, e_ix0, e_ix1, e_ix2, e_il0, e_il1, e_il2, D.isNon, List.map_cons, List.map_nil, List.cons_append, List.nil_append, List.length_cons, List.length_nil, Nat.reduceAdd, Nat.reduceSub, List.replicate_succ, List.replicate_zero, List.set_cons_zero, List.set_cons_succ, List.getElem?_cons_zero, List.getElem?_cons_succ, Option.join_some, wipeE, if_true, if_false, reduceIte, Bool.false_eq_true, Bool.not_true, Bool.not_false]) _ fun d hd => by
        simp only [e_fnRun, e_bnd, e_bndS, e_seq, e_if, e_ret, e_retN, e_set, e_expr, e_raise, e_nil, e_par, e_asg, e_sub, e_args0, e_args1, e_rt, e_some, e_var, e_k, e_call, e_un, e_op, e_test, e_boolD, e_bAnd, e_bOr, e_bNot, e_mAnd, e_mOr, e_mNot, e_mIf, e_chain, e_tup, e_lst, e_own, e_isN, e_notN, e_part, e_noPart, e_intD, e_sl, e_seqM, e_its, e_tupM, e_lstM, e_yes, e_el, e_gtN, e_gtNil, e_gtCons, e_gtTup, e_addI, e_subI, e_ltI, e_leI, e_gtI, e_geI, e_negI, e_lenT, e_lenL, e_tupT, e_tupL, e_lstT, e_slT, e_slL, e_ix0, e_ix1, e_ix2, e_il0, e_il1, e_il2, D.isNon, List.map_cons, List.map_nil, List.cons_append, List.nil_append, List.length_cons, List.length_nil, Nat.reduceAdd, Nat.reduceSub, List.replicate_succ, List.replicate_zero, List.set_cons_zero, List.set_cons_succ, List.getElem?_cons_zero, List.getElem?_cons_succ, Option.join_some, wipeE, if_true, if_false, reduceIte, Bool.false_eq_true, Bool.not_true, Bool.not_false, law_int_ok (hx d hd)]
        cases d with
        | int k =>
          simp only [e_fnRun, e_bnd, e_bndS, e_seq, e_if, e_ret, e_retN, e_set, e_expr, e_raise, e_nil, e_par, e_asg, e_sub, e_args0, e_args1, e_rt, e_some, e_var, e_k, e_call, e_un, e_op, e_test, e_boolD, e_bAnd, e_bOr, e_bNot, e_mAnd, e_mOr, e_mNot, e_mIf, e_chain, e_tup, e_lst, e_own, e_isN, e_notN, e_part, e_noPart, e_intD, e_sl, e_seqM, e_its, e_tupM, e_lstM, e_yes, e_el, e_gtN, e_gtNil, e_gtCons, e_gtTup, e_addI, e_subI, e_ltI, e_leI, e_gtI, e_geI, e_negI, e_lenT, e_lenL, e_tupT, e_tupL, e_lstT, e_slT, e_slL, e_ix0, e_ix1, e_ix2, e_il0, e_il1, e_il2, D.isNon, List.map_cons, List.map_nil, List.cons_append, List.nil_append, List.length_cons, List.length_nil, Nat.reduceAdd, Nat.reduceSub, List.replicate_succ, List.replicate_zero, List.set_cons_zero, List.set_cons_succ, List.getElem?_cons_zero, List.getElem?_cons_succ, Option.join_some, wipeE, if_true, if_false, reduceIte, Bool.false_eq_true, Bool.not_true, Bool.not_false, isInt, ne_int]
          by_cases k0 : k = 0
          · simp only [e_fnRun, e_bnd, e_bndS, e_seq, e_if, e_ret, e_retN, e_set, e_expr, e_raise, e_nil, e_par, e_asg, e_sub, e_args0, e_args1, e_rt, e_some, e_var, e_k, e_call, e_un, e_op, e_test, e_boolD, e_bAnd, e_bOr, e_bNot, e_mAnd, e_mOr, e_mNot, e_mIf, e_chain, e_tup, e_lst, e_own, e_isN, e_notN, e_part, e_noPart, e_intD, e_sl, e_seqM, e_its, e_tupM, e_lstM, e_yes, e_el, e_gtN, e_gtNil, e_gtCons, e_gtTup, e_addI, e_subI, e_ltI, e_leI, e_gtI, e_geI, e_negI, e_lenT, e_lenL, e_tupT, e_tupL, e_lstT, e_slT, e_slL, e_ix0, e_ix1, e_ix2, e_il0, e_il1, e_il2, D.isNon, List.map_cons, List.map_nil, List.cons_append, List.nil_append, List.length_cons, List.length_nil, Nat.reduceAdd, Nat.reduceSub, List.replicate_succ, List.replicate_zero, List.set_cons_zero, List.set_cons_succ, List.getElem?_cons_zero, List.getElem?_cons_succ, Option.join_some, wipeE, if_true, if_false, reduceIte, Bool.false_eq_true, Bool.not_true, Bool.not_false, k0, decide_true, ne_eq, not_true, false_and, decide_false]
          · simp only [e_fnRun, e_bnd, e_bndS, e_seq, e_if, e_ret, e_retN, e_set, e_expr, e_raise, e_nil, e_par, e_asg, e_sub, e_args0, e_args1, e_rt, e_some, e_var, e_k, e_call, e_un, e_op, e_test, e_boolD, e_bAnd, e_bOr, e_bNot, e_mAnd, e_mOr, e_mNot, e_mIf, e_chain, e_tup, e_lst, e_own, e_isN, e_notN, e_part, e_noPart, e_intD, e_sl, e_seqM, e_its, e_tupM, e_lstM, e_yes, e_el, e_gtN, e_gtNil, e_gtCons, e_gtTup, e_addI, e_subI, e_ltI, e_leI, e_gtI, e_geI, e_negI, e_lenT, e_lenL, e_tupT, e_tupL, e_lstT, e_slT, e_slL, e_ix0, e_ix1, e_ix2, e_il0, e_il1, e_il2, D.isNon, List.map_cons, List.map_nil, List.cons_append, List.nil_append, List.length_cons, List.length_nil, Nat.reduceAdd, Nat.reduceSub, List.replicate_succ, List.replicate_zero, List.set_cons_zero, List.set_cons_succ, List.getElem?_cons_zero, List.getElem?_cons_succ, Option.join_some, wipeE, if_true, if_false, reduceIte, Bool.false_eq_true, Bool.not_true, Bool.not_false, k0, decide_false, ne_eq, not_false_eq_true, true_and, abs_int]
        | _ => simp only [e_fnRun, e_bnd, e_bndS, e_seq, e_if, e_ret, e_retN, e_set, e_expr, e_raise, e_nil, e_par, e_asg, e_sub, e_args0, e_args1, e_rt, e_some, e_var, e_k, e_call, e_un, e_op, e_test, e_boolD, e_bAnd, e_bOr, e_bNot, e_mAnd, e_mOr, e_mNot, e_mIf, e_chain, e_tup, e_lst, e_own, e_isN, e_notN, e_part, e_noPart, e_intD, e_sl, e_seqM, e_its, e_tupM, e_lstM, e_yes, e_el, e_gtN, e_gtNil, e_gtCons, e_gtTup, e_addI, e_subI, e_ltI, e_leI, e_gtI, e_geI, e_negI, e_lenT, e_lenL, e_tupT, e_tupL, e_lstT, e_slT, e_slL, e_ix0, e_ix1, e_ix2, e_il0, e_il1, e_il2, D.isNon, List.map_cons, List.map_nil, List.cons_append, List.nil_append, List.length_cons, List.length_nil, Nat.reduceAdd, Nat.reduceSub, List.replicate_succ, List.replicate_zero, List.set_cons_zero, List.set_cons_succ, List.getElem?_cons_zero, List.getElem?_cons_succ, Option.join_some, wipeE, if_true, if_false, reduceIte, Bool.false_eq_true, Bool.not_true, Bool.not_false, isInt]
    unfold m__law_is_clause
    simp only [e_fnRun, e_bnd, e_bndS, e_seq, e_if, e_ret, e_retN, e_set, e_expr, e_raise, e_nil, e_par, e_asg, e_sub, e_args0, e_args1, e_rt, e_some, e_var, e_k, e_call, e_un, e_op, e_test, e_boolD, e_bAnd, e_bOr, e_bNot, e_mAnd, e_mOr, e_mNot, e_mIf, e_chain, e_tup, e_lst, e_own, e_isN, e_notN, e_part, e_noPart, e_intD, e_sl, e_seqM, e_its, e_tupM, e_lstM, e_yes, e_el, e_gtN, e_gtNil, e_gtCons, e_gtTup, e_addI, e_subI, e_ltI, e_leI, e_gtI, e_geI, e_negI, e_lenT, e_lenL, e_tupT, e_tupL, e_lstT, e_slT, e_slL, e_ix0, e_ix1, e_ix2, e_il0, e_il1, e_il2, D.isNon, List.map_cons, List.map_nil, List.cons_append, List.nil_append, List.length_cons, List.length_nil, Nat.reduceAdd, Nat.reduceSub, List.replicate_succ, List.replicate_zero, List.set_cons_zero, List.set_cons_succ, List.getElem?_cons_zero, List.getElem?_cons_succ, Option.join_some, wipeE, if_true, if_false, reduceIte, Bool.false_eq_true, Bool.not_true, Bool.not_false, ty_tup hT, isTup, h1, all_map]
    cases ha : xs.all (fun d => (match d with | .int k => decide (k ≠ 0 ∧ (if k < 0 then -k else k) ≤ c) | _ => false)) with
    | false =>
      simp only [e_fnRun, e_bnd, e_bndS, e_seq, e_if, e_ret, e_retN, e_set, e_expr, e_raise, e_nil, e_par, e_asg, e_sub, e_args0, e_args1, e_rt, e_some, e_var, e_k, e_call, e_un, e_op, e_test, e_boolD, e_bAnd, e_bOr, e_bNot, e_mAnd, e_mOr, e_mNot, e_mIf, e_chain, e_tup, e_lst, e_own, e_isN, e_notN, e_part, e_noPart, e_intD, e_sl, e_seqM, e_its, e_tupM, e_lstM, e_yes, e_el, e_gtN, e_gtNil, e_gtCons, e_gtTup, e_addI, e_subI, e_ltI, e_leI, e_gtI, e_geI, e_negI, e_lenT, e_lenL, e_tupT, e_tupL, e_lstT, e_slT, e_slL, e_ix0, e_ix1, e_ix2, e_il0, e_il1, e_il2, D.isNon, List.map_cons, List.map_nil, List.cons_append, List.nil_append, List.length_cons, List.length_nil, Nat.reduceAdd, Nat.reduceSub, List.replicate_succ, List.replicate_zero, List.set_cons_zero, List.set_cons_succ, List.getElem?_cons_zero, List.getElem?_cons_succ, Option.join_some, wipeE, if_true, if_false, reduceIte, Bool.false_eq_true, Bool.not_true, Bool.not_false]
      congr 2
      cases hi : xs.all isInt with
      | false => rw [clD_not hi]
      | true =>
        obtain ⟨ns, rfl⟩ := intsOf_some hi
        rw [clD_ints]
        refine (decide_eq_false fun z => ?_).symm
        have : (ns.map D.int).all (fun d => (match d with | .int k => decide (k ≠ 0 ∧ (if k < 0 then -k else k) ≤ c) | _ => false)) = true := by
          rw [List.all_map, List.all_eq_true]
          intro k hk
          have := z.1 k hk
          exact decide_eq_true ⟨this.1, by split <;> omega⟩
        rw [this] at ha; cases ha
    | true =>
      have hi : xs.all isInt = true := by
        rw [List.all_eq_true] at ha ⊢
        intro d hd
        have := ha d hd
        cases d <;> first | rfl | cases this
      obtain ⟨ns, rfl⟩ := intsOf_some hi
      rw [List.length_map] at hz
      rw [List.all_map, List.all_eq_true] at ha
      have ha' : ∀ k ∈ ns, k ≠ 0 ∧ -c ≤ k ∧ k ≤ c := fun k hk => by
        have := of_decide_eq_true (ha k hk)
        refine ⟨this.1, ?_, ?_⟩ <;> (have h2 := this.2; split at h2 <;> omega)
      have h3 : mSortedSet (mVar 1) [some (.int c), some (.tup (ns.map .int)), none] S = .ok (.lst ((sortU ns).map .int)) S := by
        show bnd _ sortedSet S = _
        simp only [e_fnRun, e_bnd, e_bndS, e_seq, e_if, e_ret, e_retN, e_set, e_expr, e_raise, e_nil, e_par, e_asg, e_sub, e_args0, e_args1, e_rt, e_some, e_var, e_k, e_call, e_un, e_op, e_test, e_boolD, e_bAnd, e_bOr, e_bNot, e_mAnd, e_mOr, e_mNot, e_mIf, e_chain, e_tup, e_lst, e_own, e_isN, e_notN, e_part, e_noPart, e_intD, e_sl, e_seqM, e_its, e_tupM, e_lstM, e_yes, e_el, e_gtN, e_gtNil, e_gtCons, e_gtTup, e_addI, e_subI, e_ltI, e_leI, e_gtI, e_geI, e_negI, e_lenT, e_lenL, e_tupT, e_tupL, e_lstT, e_slT, e_slL, e_ix0, e_ix1, e_ix2, e_il0, e_il1, e_il2, D.isNon, List.map_cons, List.map_nil, List.cons_append, List.nil_append, List.length_cons, List.length_nil, Nat.reduceAdd, Nat.reduceSub, List.replicate_succ, List.replicate_zero, List.set_cons_zero, List.set_cons_succ, List.getElem?_cons_zero, List.getElem?_cons_succ, Option.join_some, wipeE, if_true, if_false, reduceIte, Bool.false_eq_true, Bool.not_true, Bool.not_false]
        simp only [sortedSet, intSeq, seqOf, intsOf_map]
        rw [if_pos (by omega)]
      have h4 := eq_lstI ns (sortU ns) S
      have h5 : mLc [2] (mSeq (mVar 1)) (gtN 2) bYes (mOp inD (mUn negD (mVar 2)) (mVar 1)) resF [some (.int c), some (.tup (ns.map .int)), none] S = .ok (.lst (ns.map fun k => .bl (decide (-k ∈ ns)))) S :=
        mLcT_ints (by simp only [e_fnRun, e_bnd, e_bndS, e_seq, e_if, e_ret, e_retN, e_set, e_expr, e_raise, e_nil, e_par, e_asg, e_sub, e_args0, e_args1, e_rt, e_some, e_var, e_k, e_call, e_un, e_op, e_test, e_boolD, e_bAnd, e_bOr, e_bNot, e_mAnd, e_mOr, e_mNot, e_mIf, e_chain, e_tup, e_lst, e_own, e_isN, e_notN, e_part, e_noPart, e_intD, e_sl, e_seqM, e_its, e_tupM, e_lstM, e_yes, e_el, e_gtN, e_gtNil, e_gtCons, e_gtTup, e_addI, e_subI, e_ltI, e_leI, e_gtI, e_geI, e_negI, e_lenT, e_lenL, e_tupT, e_tupL, e_lstT, e_slT, e_slL, e_ix0, e_ix1, e_ix2, e_il0, e_il1, e_il2, D.isNon, List.map_cons, List.map_nil, List.cons_append, List.nil_append, List.length_cons, List.length_nil, Nat.reduceAdd, Nat.reduceSub, List.replicate_succ, List.replicate_zero, List.set_cons_zero, List.set_cons_succ, List.getElem?_cons_zero, List.getElem?_cons_succ, Option.join_some, wipeE, if_true, if_false, reduceIte, Bool.false_eq_true, Bool.not_true, Bool.not_false]) _ fun k hk => by simp only [e_fnRun, e_bnd, e_bndS, e_seq, e_if, e_ret, e_retN, e_set, e_expr, e_raise, e_nil, e_par, e_asg, e_sub, e_args0, e_args1, e_rt, e_some, e_var, e_k, e_call, e_un, e_op, e_test, e_boolD, e_bAnd, e_bOr, e_bNot, e_mAnd, e_mOr, e_mNot, e_mIf, e_chain, e_tup, e_lst, e_own, e_isN, e_notN, e_part, e_noPart, e_intD, e_sl, e_seqM, e_its, e_tupM, e_lstM, e_yes, e_el, e_gtN, e_gtNil, e_gtCons, e_gtTup, e_addI, e_subI, e_ltI, e_leI, e_gtI, e_geI, e_negI, e_lenT, e_lenL, e_tupT, e_tupL, e_lstT, e_slT, e_slL, e_ix0, e_ix1, e_ix2, e_il0, e_il1, e_il2, D.isNon, List.map_cons, List.map_nil, List.cons_append, List.nil_append, List.length_cons, List.length_nil, Nat.reduceAdd, Nat.reduceSub, List.replicate_succ, List.replicate_zero, List.set_cons_zero, List.set_cons_succ, List.getElem?_cons_zero, List.getElem?_cons_succ, Option.join_some, wipeE, if_true, if_false, reduceIte, Bool.false_eq_true, Bool.not_true, Bool.not_false, in_tup]
      simp only [e_fnRun, e_bnd, e_bndS, e_seq, e_if, e_ret, e_retN, e_set, e_expr, e_raise, e_nil, e_par, e_asg, e_sub, e_args0, e_args1, e_rt, e_some, e_var, e_k, e_call, e_un, e_op, e_test, e_boolD, e_bAnd, e_bOr, e_bNot, e_mAnd, e_mOr, e_mNot, e_mIf, e_chain, e_tup, e_lst, e_own, e_isN, e_notN, e_part, e_noPart, e_intD, e_sl, e_seqM, e_its, e_tupM, e_lstM, e_yes, e_el, e_gtN, e_gtNil, e_gtCons, e_gtTup, e_addI, e_subI, e_ltI, e_leI, e_gtI, e_geI, e_negI, e_lenT, e_lenL, e_tupT, e_tupL, e_lstT, e_slT, e_slL, e_ix0, e_ix1, e_ix2, e_il0, e_il1, e_il2, D.isNon, List.map_cons, List.map_nil, List.cons_append, List.nil_append, List.length_cons, List.length_nil, Nat.reduceAdd, Nat.reduceSub, List.replicate_succ, List.replicate_zero, List.set_cons_zero, List.set_cons_succ, List.getElem?_cons_zero, List.getElem?_cons_succ, Option.join_some, wipeE, if_true, if_false, reduceIte, Bool.false_eq_true, Bool.not_true, Bool.not_false, e_lstT, h3, h4, clD_ints]
      by_cases c2 : ns.Pairwise (· < ·)
      · simp only [e_fnRun, e_bnd, e_bndS, e_seq, e_if, e_ret, e_retN, e_set, e_expr, e_raise, e_nil, e_par, e_asg, e_sub, e_args0, e_args1, e_rt, e_some, e_var, e_k, e_call, e_un, e_op, e_test, e_boolD, e_bAnd, e_bOr, e_bNot, e_mAnd, e_mOr, e_mNot, e_mIf, e_chain, e_tup, e_lst, e_own, e_isN, e_notN, e_part, e_noPart, e_intD, e_sl, e_seqM, e_its, e_tupM, e_lstM, e_yes, e_el, e_gtN, e_gtNil, e_gtCons, e_gtTup, e_addI, e_subI, e_ltI, e_leI, e_gtI, e_geI, e_negI, e_lenT, e_lenL, e_tupT, e_tupL, e_lstT, e_slT, e_slL, e_ix0, e_ix1, e_ix2, e_il0, e_il1, e_il2, D.isNon, List.map_cons, List.map_nil, List.cons_append, List.nil_append, List.length_cons, List.length_nil, Nat.reduceAdd, Nat.reduceSub, List.replicate_succ, List.replicate_zero, List.set_cons_zero, List.set_cons_succ, List.getElem?_cons_zero, List.getElem?_cons_succ, Option.join_some, wipeE, if_true, if_false, reduceIte, Bool.false_eq_true, Bool.not_true, Bool.not_false, sortU_self c2, decide_true, h5, any_map]
        congr 2
        rw [Bool.eq_iff_iff, Bool.not_eq_true', ← Bool.not_eq_true, List.any_eq_true, decide_eq_true_eq]
        constructor
        · exact fun z => ⟨ha', c2, fun k hk hk' => z ⟨k, hk, decide_eq_true hk'⟩⟩
        · rintro z ⟨k, hk, hk'⟩
          exact z.2.2 k hk (of_decide_eq_true hk')
      · have : ¬ ns = sortU ns := fun e => c2 (by rw [e]; exact sortU_lt ns)
        simp only [e_fnRun, e_bnd, e_bndS, e_seq, e_if, e_ret, e_retN, e_set, e_expr, e_raise, e_nil, e_par, e_asg, e_sub, e_args0, e_args1, e_rt, e_some, e_var, e_k, e_call, e_un, e_op, e_test, e_boolD, e_bAnd, e_bOr, e_bNot, e_mAnd, e_mOr, e_mNot, e_mIf, e_chain, e_tup, e_lst, e_own, e_isN, e_notN, e_part, e_noPart, e_intD, e_sl, e_seqM, e_its, e_tupM, e_lstM, e_yes, e_el, e_gtN, e_gtNil, e_gtCons, e_gtTup, e_addI, e_subI, e_ltI, e_leI, e_gtI, e_geI, e_negI, e_lenT, e_lenL, e_tupT, e_tupL, e_lstT, e_slT, e_slL, e_ix0, e_ix1, e_ix2, e_il0, e_il1, e_il2, D.isNon, List.map_cons, List.map_nil, List.cons_append, List.nil_append, List.length_cons, List.length_nil, Nat.reduceAdd, Nat.reduceSub, List.replicate_succ, List.replicate_zero, List.set_cons_zero, List.set_cons_succ, List.getElem?_cons_zero, List.getElem?_cons_succ, Option.join_some, wipeE, if_true, if_false, reduceIte, Bool.false_eq_true, Bool.not_true, Bool.not_false, this, decide_false]
        rw [decide_eq_false (show ¬ Cl c ns from fun z => c2 z.2.1)]
  | ty n => cases hT
  | ref n => cases hT
  | _ =>
    unfold m__law_is_clause
    simp only [e_fnRun, e_bnd, e_bndS, e_seq, e_if, e_ret, e_retN, e_set, e_expr, e_raise, e_nil, e_par, e_asg, e_sub, e_args0, e_args1, e_rt, e_some, e_var, e_k, e_call, e_un, e_op, e_test, e_boolD, e_bAnd, e_bOr, e_bNot, e_mAnd, e_mOr, e_mNot, e_mIf, e_chain, e_tup, e_lst, e_own, e_isN, e_notN, e_part, e_noPart, e_intD, e_sl, e_seqM, e_its, e_tupM, e_lstM, e_yes, e_el, e_gtN, e_gtNil, e_gtCons, e_gtTup, e_addI, e_subI, e_ltI, e_leI, e_gtI, e_geI, e_negI, e_lenT, e_lenL, e_tupT, e_tupL, e_lstT, e_slT, e_slL, e_ix0, e_ix1, e_ix2, e_il0, e_il1, e_il2, D.isNon, List.map_cons, List.map_nil, List.cons_append, List.nil_append, List.length_cons, List.length_nil, Nat.reduceAdd, Nat.reduceSub, List.replicate_succ, List.replicate_zero, List.set_cons_zero, List.set_cons_succ, List.getElem?_cons_zero, List.getElem?_cons_succ, Option.join_some, wipeE, if_true, if_false, reduceIte, Bool.false_eq_true, Bool.not_true, Bool.not_false, ty_tup hT, isTup, clD]
end K14

set_option Elab.async false
set_option maxRecDepth 100000
set_option linter.all false
set_option maxHeartbeats 4000000
namespace K14
open PySem hiding ret
open Mir
open Classical
def absZ (k : Int) : Int := if k < 0 then -k else k
theorem filterMap_int (c : Int → Bool) : ∀ l : List Int, l.filterMap (fun k => if c k = true then some (D.int k) else none) = (l.filter c).map D.int
  | [] => rfl
  | k :: l => by
    by_cases h : c k = true
    · rw [List.filterMap_cons_some (b := D.int k) (by rw [if_pos h]), List.filter_cons_of_pos h, List.map_cons, filterMap_int c l]
    · rw [List.filterMap_cons_none (by rw [if_neg h]), List.filter_cons_of_neg h, filterMap_int c l]
theorem dc_ints {g : Store → Prop} {f : D → M (Option (L2.Key × D))} {S : Store} (hg : g S) (c : Int → Bool) : ∀ (l js : List Int) (es : List D), js.Nodup → (∀ k ∈ l, f (.int k) S = .ok (if c k = true then some (.inl k, .bl true) else none) S) →
    ∃ (js' : List Int) (es' : List D), dcD g f (l.map .int) (js.map Sum.inl) es S = .ok (js'.map Sum.inl, es') S ∧ js'.Nodup ∧ ∀ k, k ∈ js' ↔ k ∈ js ∨ (k ∈ l ∧ c k = true)
  | [], js, es, hn, _ => ⟨js, es, by simp only [List.map_nil, dcD, if_pos hg], hn, fun k => by simp⟩
  | k :: l, js, es, hn, h => by
    simp only [List.map_cons, dcD, if_pos hg]
    rw [h k List.mem_cons_self]
    by_cases hc : c k = true
    · rw [if_pos hc]
      dsimp only
      have hk : hasK (js.map Sum.inl) (Sum.inl k) = decide (k ∈ js) := by
        unfold hasK
        rw [List.any_map, Bool.eq_iff_iff, List.any_eq_true, decide_eq_true_eq]
        constructor
        · rintro ⟨j, hj, e⟩
          have := of_decide_eq_true e
          cases this
          exact hj
        · exact fun hj => ⟨k, hj, by simp⟩
      by_cases hm : k ∈ js
      · obtain ⟨js', es', e1, e2, e3⟩ := dc_ints hg c l js (putD (js.map Sum.inl) es (.inl k) (.bl true)).2 hn fun j hj => h j (List.mem_cons_of_mem _ hj)
        refine ⟨js', es', ?_, e2, fun j => ?_⟩
        · rw [show (putD (js.map Sum.inl) es (.inl k) (.bl true)).1 = js.map Sum.inl by unfold putD; rw [hk, if_pos (decide_eq_true hm)]]
          exact e1
        · rw [e3, List.mem_cons]
          constructor
          · rintro (z | ⟨z1, z2⟩)
            · exact .inl z
            · exact .inr ⟨.inr z1, z2⟩
          · rintro (z | ⟨z1 | z1, z2⟩)
            · exact .inl z
            · exact .inl (z1 ▸ hm)
            · exact .inr ⟨z1, z2⟩
      · obtain ⟨js', es', e1, e2, e3⟩ := dc_ints hg c l (js ++ [k]) (putD (js.map Sum.inl) es (.inl k) (.bl true)).2 (List.nodup_append.mpr ⟨hn, by simp, fun a ha b hb => by simp at hb; subst hb; exact fun e => hm (e ▸ ha)⟩) fun j hj => h j (List.mem_cons_of_mem _ hj)
        refine ⟨js', es', ?_, e2, fun j => ?_⟩
        · rw [show (putD (js.map Sum.inl) es (.inl k) (.bl true)).1 = (js ++ [k]).map Sum.inl by unfold putD; rw [hk, if_neg (by simpa using hm), List.map_append]; rfl]
          exact e1
        · rw [e3, List.mem_append, List.mem_singleton, List.mem_cons]
          constructor
          · rintro ((z | z) | ⟨z1, z2⟩)
            · exact .inl z
            · exact .inr ⟨.inl z, z ▸ hc⟩
            · exact .inr ⟨.inr z1, z2⟩
          · rintro (z | ⟨z1 | z1, z2⟩)
            · exact .inl (.inl z)
            · exact .inl (.inr z1)
            · exact .inr ⟨z1, z2⟩
    · rw [if_neg hc]
      dsimp only
      obtain ⟨js', es', e1, e2, e3⟩ := dc_ints hg c l js es hn fun j hj => h j (List.mem_cons_of_mem _ hj)
      refine ⟨js', es', e1, e2, fun j => ?_⟩
      rw [e3, List.mem_cons]
      constructor
      · rintro (z | ⟨z1, z2⟩)
        · exact .inl z
        · exact .inr ⟨.inr z1, z2⟩
      · rintro (z | ⟨z1 | z1, z2⟩)
        · exact .inl z
        · exact absurd (z1 ▸ z2) hc
        · exact .inr ⟨z1, z2⟩
theorem hasK_ints (js : List Int) (k : Int) : hasK (js.map Sum.inl) (Sum.inl k) = decide (k ∈ js) := by
  unfold hasK
  rw [List.any_map, Bool.eq_iff_iff, List.any_eq_true, decide_eq_true_eq]
  constructor
  · rintro ⟨j, hj, e⟩
    have := of_decide_eq_true e
    cases this
    exact hj
  · exact fun hj => ⟨k, hj, by simp⟩
theorem intKeys_map : ∀ js : List Int, intKeys (js.map Sum.inl) = some js
  | [] => rfl
  | j :: js => by simp only [List.map_cons, intKeys, intKeys_map js, Option.map_some]
theorem sortI_lt {js : List Int} (h : js.Nodup) : (sortI js).Pairwise (· < ·) := by
  have h1 := sortI_sorted js
  have h2 : (sortI js).Nodup := (sortI_perm js).nodup_iff.mpr h
  exact (List.pairwise_and_iff.mpr ⟨h1, h2⟩).imp fun z => by have := z.1; have := z.2; omega
abbrev clT (ns : List Int) : D := .tup (ns.map .int)
abbrev csT (css : List (List Int)) : D := .tup (css.map clT)
theorem st_e (S : Store) : eqD (.str "") (.str "") S = .ok (.bl true) S := eq_str _ _ (by decide +kernel) (by decide +kernel) S
theorem st_n (S : Store) : eqD (.str "number") (.str "") S = .ok (.bl false) S := eq_str _ _ (by decide +kernel) (by decide +kernel) S
theorem st_c (S : Store) : eqD (.str "clause") (.str "") S = .ok (.bl false) S := eq_str _ _ (by decide +kernel) (by decide +kernel) S
theorem st_cs (S : Store) : eqD (.str "clauses") (.str "") S = .ok (.bl false) S := eq_str _ _ (by decide +kernel) (by decide +kernel) S
theorem st_s (S : Store) : eqD (.str "step") (.str "") S = .ok (.bl false) S := eq_str _ _ (by decide +kernel) (by decide +kernel) S
theorem i00 (S : Store) : eqD (.int 0) (.int 0) S = .ok (.bl true) S := by rw [eq_int]; rfl
theorem i10 (S : Store) : eqD (.int 1) (.int 0) S = .ok (.bl false) S := by rw [eq_int]; rfl
theorem i20 (S : Store) : eqD (.int 2) (.int 0) S = .ok (.bl false) S := by rw [eq_int]; rfl
theorem i11 (S : Store) : eqD (.int 1) (.int 1) S = .ok (.bl true) S := by rw [eq_int]; rfl
theorem i21 (S : Store) : eqD (.int 2) (.int 1) S = .ok (.bl false) S := by rw [eq_int]; rfl
theorem clD_tup {p : List Int → Prop} {v : D} (h : clD p v = true) : ∃ ns, v = clT ns ∧ p ns := by
  cases v with
  | tup xs =>
    cases hi : xs.all isInt with
    | false => rw [clD_not hi] at h; cases h
    | true =>
      obtain ⟨ns, rfl⟩ := intsOf_some hi
      rw [clD_ints] at h
      exact ⟨ns, rfl, of_decide_eq_true h⟩
  | _ => cases h
theorem len_tup (xs : List D) (S : Store) : lenD [.tup xs] S = .ok (.int xs.length) S := rfl

/-- the n-th object of the store is a deck -/
def Dk (S : Store) (n : Nat) : Prop := ∃ a b : Int, S[n]? = some (.lst [.int a, .int b])
/-- nothing but the deck has changed -/
def Ev (n : Nat) (S S' : Store) : Prop := S'.length = S.length ∧ (∀ q, q ≠ n → S'[q]? = S[q]?) ∧ Dk S' n
theorem Ev.trans {n : Nat} {S S1 S2 : Store} (a : Ev n S S1) (b : Ev n S1 S2) : Ev n S S2 := ⟨b.1.trans a.1, fun q h => (b.2.1 q h).trans (a.2.1 q h), b.2.2⟩
theorem Ev.refl {n : Nat} {S : Store} (h : Dk S n) : Ev n S S := ⟨rfl, fun _ _ => rfl, h⟩
theorem ev_set {S : Store} {n : Nat} (h : Dk S n) (a b : Int) : Ev n S (S.set n (.lst [.int a, .int b])) := by
  obtain ⟨x, y, e⟩ := h
  have hn : n < S.length := (List.getElem?_eq_some_iff.mp e).1
  exact ⟨by simp, fun q hq => List.getElem?_set_ne (Ne.symm hq), a, b, by simp [hn]⟩
theorem ref_ix0 {S : Store} {n : Nat} {a b : D} (e : S[n]? = some (.lst [a, b])) : ixD (.ref n) (.int 0) S = .ok a S := by
  have a1 : L2.atI [a, b] (0 : Int) = some a := rfl
  simp only [ixD, seqOf, e, a1]
theorem ref_ix1 {S : Store} {n : Nat} {a b : D} (e : S[n]? = some (.lst [a, b])) : ixD (.ref n) (.int 1) S = .ok b S := by
  have a1 : L2.atI [a, b] (1 : Int) = some b := rfl
  simp only [ixD, seqOf, e, a1]
theorem ref_set0 {S : Store} {n : Nat} {a b d : D} (e : S[n]? = some (.lst [a, b])) : setD (.ref n) (.int 0) d S = some (S.set n (.lst [d, b])) := by
  have a1 : L2.ixN [a, b].length (0 : Int) = some 0 := rfl
  simp only [setD, e, a1]
  rfl
theorem ref_set1 {S : Store} {n : Nat} {a b d : D} (e : S[n]? = some (.lst [a, b])) : setD (.ref n) (.int 1) d S = some (S.set n (.lst [a, d])) := by
  have a1 : L2.ixN [a, b].length (1 : Int) = some 1 := rfl
  simp only [setD, e, a1]
  rfl
theorem mod_ok {a m : Int} (h : 0 < m) (S : Store) : modD (.int a) (.int m) S = .ok (.int (a.fmod m)) S ∧ 0 ≤ a.fmod m ∧ a.fmod m < m := by
  refine ⟨?_, ?_, ?_⟩
  · simp only [modD, int2c]
    rw [if_pos (by omega)]
  · rw [Int.fmod_eq_emod_of_nonneg _ (by omega)]
    exact Int.emod_nonneg _ (by omega)
  · rw [Int.fmod_eq_emod_of_nonneg _ (by omega)]
    exact Int.emod_lt_of_pos _ h
theorem div_ok {a m : Int} (h : 0 < m) (h2 : m < 1073741824) (S : Store) : fdivD (.int a) (.int m) S = .ok (.int (a.fdiv m)) S := by
  simp only [fdivD, int2c]
  rw [if_pos ⟨by omega, by omega⟩]
theorem mul_ok {a m : Int} (h : -(2 ^ 64) < m ∧ m < 2 ^ 64) (S : Store) : mulD (.int a) (.int m) S = .ok (.int (a * m)) S := by
  simp only [mulD, int2c]
  rw [if_pos (.inr h)]
theorem int1_ok (a : Int) (S : Store) : intD1 [.int a] S = .ok (.int a) S := rfl
theorem pow_ok {a m : Int} (h : 0 ≤ m ∧ m ≤ 1000000) (h2 : a.natAbs < 2 ^ 64) (S : Store) : powD (.int a) (.int m) S = .ok (.int (a ^ m.toNat)) S := by
  simp only [powD, int2c]
  rw [if_pos ⟨h.1, h.2, h2⟩]
theorem draw_ok {S : Store} {n : Nat} {m : Int} (h : Dk S n) (h0 : 0 < m) (h1 : m < 1073741824) : ∃ r S', m__law_draw [.ref n, .int m] S = .ok (.int r) S' ∧ 0 ≤ r ∧ r < m ∧ Ev n S S' := by
  have hD := h
  obtain ⟨a, b, e⟩ := h
  unfold m__law_draw
  by_cases ha : 0 < a
  · obtain ⟨m1, m2, m3⟩ := mod_ok (a := a) h0 S
    refine ⟨a.fmod m, S.set n (.lst [.int (a.fdiv m), .int b]), ?_, m2, m3, ev_set hD _ _⟩
    simp only [e_fnRun, e_bnd, e_bndS, e_seq, e_if, e_ret, e_retN, e_set, e_expr, e_raise, e_nil, e_par, e_asg, e_sub, e_args0, e_args1, e_rt, e_some, e_var, e_k, e_call, e_un, e_op, e_test, e_boolD, e_bAnd, e_bOr, e_bNot, e_mAnd, e_mOr, e_mNot, e_mIf, e_chain, e_tup, e_lst, e_own, e_isN, e_notN, e_part, e_noPart, e_intD, e_sl, e_seqM, e_its, e_tupM, e_lstM, e_yes, e_el, e_gtN, e_gtNil, e_gtCons, e_gtTup, e_addI, e_subI, e_ltI, e_leI, e_gtI, e_geI, e_negI, e_lenT, e_lenL, e_tupT, e_tupL, e_lstT, e_slT, e_slL, e_ix0, e_ix1, e_ix2, e_il0, e_il1, e_il2, D.isNon, List.map_cons, List.map_nil, List.cons_append, List.nil_append, List.length_cons, List.length_nil, Nat.reduceAdd, Nat.reduceSub, List.replicate_succ, List.replicate_zero, List.set_cons_zero, List.set_cons_succ, List.getElem?_cons_zero, List.getElem?_cons_succ, Option.join_some, wipeE, if_true, if_false, reduceIte, Bool.false_eq_true, Bool.not_true, Bool.not_false, ref_ix0 e, ha, decide_true, int1_ok, m1, div_ok h0 h1, ref_set0 e]
  · let b' := (b * 3935559000 + 30011).fmod 2305843009213693951
    have m1 := (mod_ok (a := b * 3935559000 + 30011) (m := 2305843009213693951) (by decide) S).1
    have hn : n < S.length := (List.getElem?_eq_some_iff.mp e).1
    have e2 : (S.set n (.lst [.int a, .int b']))[n]? = some (.lst [.int a, .int b']) := by simp [hn]
    obtain ⟨m2, m3, m4⟩ := mod_ok (a := b'.fdiv 131072) h0 (S.set n (.lst [.int a, .int b']))
    refine ⟨(b'.fdiv 131072).fmod m, S.set n (.lst [.int a, .int b']), ?_, m3, m4, ev_set hD _ _⟩
    simp only [e_fnRun, e_bnd, e_bndS, e_seq, e_if, e_ret, e_retN, e_set, e_expr, e_raise, e_nil, e_par, e_asg, e_sub, e_args0, e_args1, e_rt, e_some, e_var, e_k, e_call, e_un, e_op, e_test, e_boolD, e_bAnd, e_bOr, e_bNot, e_mAnd, e_mOr, e_mNot, e_mIf, e_chain, e_tup, e_lst, e_own, e_isN, e_notN, e_part, e_noPart, e_intD, e_sl, e_seqM, e_its, e_tupM, e_lstM, e_yes, e_el, e_gtN, e_gtNil, e_gtCons, e_gtTup, e_addI, e_subI, e_ltI, e_leI, e_gtI, e_geI, e_negI, e_lenT, e_lenL, e_tupT, e_tupL, e_lstT, e_slT, e_slL, e_ix0, e_ix1, e_ix2, e_il0, e_il1, e_il2, D.isNon, List.map_cons, List.map_nil, List.cons_append, List.nil_append, List.length_cons, List.length_nil, Nat.reduceAdd, Nat.reduceSub, List.replicate_succ, List.replicate_zero, List.set_cons_zero, List.set_cons_succ, List.getElem?_cons_zero, List.getElem?_cons_succ, Option.join_some, wipeE, if_true, if_false, reduceIte, Bool.false_eq_true, Bool.not_true, Bool.not_false, ref_ix0 e, ha, decide_false, int1_ok, ref_ix1 e, mul_ok (a := b) (m := 3935559000) (by decide), m1, ref_set1 e, ref_ix1 e2, div_ok (a := b') (m := 131072) (by decide) (by decide)]
    exact by rw [show (b * 3935559000 + 30011).fmod 2305843009213693951 = b' from rfl, ref_ix1 e2]; simp only [e_fnRun, e_bnd, e_bndS, e_seq, e_if, e_ret, e_retN, e_set, e_expr, e_raise, e_nil, e_par, e_asg, e_sub, e_args0, e_args1, e_rt, e_some, e_var, e_k, e_call, e_un, e_op, e_test, e_boolD, e_bAnd, e_bOr, e_bNot, e_mAnd, e_mOr, e_mNot, e_mIf, e_chain, e_tup, e_lst, e_own, e_isN, e_notN, e_part, e_noPart, e_intD, e_sl, e_seqM, e_its, e_tupM, e_lstM, e_yes, e_el, e_gtN, e_gtNil, e_gtCons, e_gtTup, e_addI, e_subI, e_ltI, e_leI, e_gtI, e_geI, e_negI, e_lenT, e_lenL, e_tupT, e_tupL, e_lstT, e_slT, e_slL, e_ix0, e_ix1, e_ix2, e_il0, e_il1, e_il2, D.isNon, List.map_cons, List.map_nil, List.cons_append, List.nil_append, List.length_cons, List.length_nil, Nat.reduceAdd, Nat.reduceSub, List.replicate_succ, List.replicate_zero, List.set_cons_zero, List.set_cons_succ, List.getElem?_cons_zero, List.getElem?_cons_succ, Option.join_some, wipeE, if_true, if_false, reduceIte, Bool.false_eq_true, Bool.not_true, Bool.not_false, int1_ok, div_ok (a := b') (m := 131072) (by decide) (by decide), m2]
theorem deck_ok (c : Int) (S : Store) : ∃ S', m__law_deck [.int c] S = .ok (.ref S.length) S' ∧ Dk S' S.length := by
  have m1 := (mod_ok (a := c * 950706376 + 65539) (m := 2305843009213693951) (by decide) S).1
  refine ⟨S ++ [.lst [.int (if c - 10 ^ 22 > 0 then c - 10 ^ 22 else 0), .int ((c * 950706376 + 65539).fmod 2305843009213693951)]], ?_, ?_⟩
  · unfold m__law_deck
    simp only [e_fnRun, e_bnd, e_bndS, e_seq, e_if, e_ret, e_retN, e_set, e_expr, e_raise, e_nil, e_par, e_asg, e_sub, e_args0, e_args1, e_rt, e_some, e_var, e_k, e_call, e_un, e_op, e_test, e_boolD, e_bAnd, e_bOr, e_bNot, e_mAnd, e_mOr, e_mNot, e_mIf, e_chain, e_tup, e_lst, e_own, e_isN, e_notN, e_part, e_noPart, e_intD, e_sl, e_seqM, e_its, e_tupM, e_lstM, e_yes, e_el, e_gtN, e_gtNil, e_gtCons, e_gtTup, e_addI, e_subI, e_ltI, e_leI, e_gtI, e_geI, e_negI, e_lenT, e_lenL, e_tupT, e_tupL, e_lstT, e_slT, e_slL, e_ix0, e_ix1, e_ix2, e_il0, e_il1, e_il2, D.isNon, List.map_cons, List.map_nil, List.cons_append, List.nil_append, List.length_cons, List.length_nil, Nat.reduceAdd, Nat.reduceSub, List.replicate_succ, List.replicate_zero, List.set_cons_zero, List.set_cons_succ, List.getElem?_cons_zero, List.getElem?_cons_succ, Option.join_some, wipeE, if_true, if_false, reduceIte, Bool.false_eq_true, Bool.not_true, Bool.not_false, int1_ok, pow_ok (a := 10) (m := 22) (by decide) (by decide), max2D, mul_ok (a := c) (m := 950706376) (by decide), m1]
    rfl
  · exact ⟨_, _, by rw [List.getElem?_append_right (Nat.le_refl _), Nat.sub_self]; rfl⟩
theorem i22 (S : Store) : eqD (.int 2) (.int 2) S = .ok (.bl true) S := by rw [eq_int]; rfl
theorem len_seq {S : Store} {d : D} {b : Bool} {xs : List D} (h : seqOf S d = some (b, xs)) : lenD [d] S = .ok (.int xs.length) S := by
  simp only [lenD, h]
theorem ix_seqOf {S : Store} {d : D} {b : Bool} {xs : List D} {i : Int} (h : seqOf S d = some (b, xs)) (h0 : 0 ≤ i) (h1 : i < xs.length) : ∃ x, x ∈ xs ∧ xs[i.toNat]? = some x ∧ ixD d (.int i) S = .ok x S := by
  obtain ⟨k, rfl⟩ : ∃ k : Nat, i = k := ⟨i.toNat, by omega⟩
  have hk : k < xs.length := by omega
  have a1 : L2.atI xs (k : Int) = some xs[k] := by
    unfold L2.atI L2.ixN
    simp [hk]
  exact ⟨xs[k], List.getElem_mem hk, by simp [hk], by simp only [ixD, h, a1]⟩
theorem pick_ok {S : Store} {n : Nat} {row : D} {b : Bool} {xs : List D} (h : Dk S n) (hr : ∀ S', Ev n S S' → seqOf S' row = some (b, xs)) (hx : xs ≠ []) (hl : xs.length < 1073741824) : ∃ x S', m__law_pick [.ref n, row] S = .ok x S' ∧ x ∈ xs ∧ Ev n S S' := by
  have hp : 0 < xs.length := List.length_pos_iff.mpr hx
  obtain ⟨r, S', e1, r0, r1, v⟩ := draw_ok (m := xs.length) h (by omega) (by omega)
  obtain ⟨x, hx2, _, e2⟩ := ix_seqOf (hr S' v) r0 r1
  refine ⟨x, S', ?_, hx2, v⟩
  unfold m__law_pick
  simp only [e_fnRun, e_bnd, e_bndS, e_seq, e_if, e_ret, e_retN, e_set, e_expr, e_raise, e_nil, e_par, e_asg, e_sub, e_args0, e_args1, e_rt, e_some, e_var, e_k, e_call, e_un, e_op, e_test, e_boolD, e_bAnd, e_bOr, e_bNot, e_mAnd, e_mOr, e_mNot, e_mIf, e_chain, e_tup, e_lst, e_own, e_isN, e_notN, e_part, e_noPart, e_intD, e_sl, e_seqM, e_its, e_tupM, e_lstM, e_yes, e_el, e_gtN, e_gtNil, e_gtCons, e_gtTup, e_addI, e_subI, e_ltI, e_leI, e_gtI, e_geI, e_negI, e_lenT, e_lenL, e_tupT, e_tupL, e_lstT, e_slT, e_slL, e_ix0, e_ix1, e_ix2, e_il0, e_il1, e_il2, D.isNon, List.map_cons, List.map_nil, List.cons_append, List.nil_append, List.length_cons, List.length_nil, Nat.reduceAdd, Nat.reduceSub, List.replicate_succ, List.replicate_zero, List.set_cons_zero, List.set_cons_succ, List.getElem?_cons_zero, List.getElem?_cons_succ, Option.join_some, wipeE, if_true, if_false, reduceIte, Bool.false_eq_true, Bool.not_true, Bool.not_false, len_seq (hr S (Ev.refl h)), e1, e2]

theorem misc_ok {S : Store} {n : Nat} {v inner : D} {k : Nat} {x2 x3 : Option D} (h : Dk S n) (Q : D → Prop) (hi : Ty inner = true ∧ isTup inner = false) (hv : Q v) (q1 : Q (.str "num")) (q2 : Q (.int 1)) :
    ∃ r S', mOp ixD (mLst [(mK .non), (mTup []), (mVar 4), (mK (.bl true)), (mK (.str "num")), (mTup [(mVar 1)]), (mK (.int 0)), (mK (.dic [] [])), (mK (.str "x")), (mK (.str "app")), (mK (.str "int")), (mTup [(mK (.str "num")), (mK (.int 1)), (mK (.int 1))])]) (mCall m__law_draw [(mVar 0), (mK (.int 12))])
      [some (.ref n), some v, x2, x3, some inner] S = .ok r S' ∧ Ev n S S' ∧ Ty r = true ∧ ∀ ys, r = .tup ys → ys.length ≤ 3 ∧ ∀ y ∈ ys, Q y := by
  obtain ⟨r, S', e1, r0, r1, ve⟩ := draw_ok (m := 12) h (by decide) (by decide)
  let xs : List D := [.non, .tup [], inner, .bl true, .str "num", .tup [v], .int 0, .dic [] [], .str "x", .str "app", .str "int", .tup [.str "num", .int 1, .int 1]]
  obtain ⟨x, hx, _, e2⟩ := ix_seqOf (S := S') (d := .lst xs) (b := false) (xs := xs) rfl r0 (by show r < 12; exact r1)
  refine ⟨x, S', ?_, ve, ?_⟩
  · simp only [e_fnRun, e_bnd, e_bndS, e_seq, e_if, e_ret, e_retN, e_set, e_expr, e_raise, e_nil, e_par, e_asg, e_sub, e_args0, e_args1, e_rt, e_some, e_var, e_k, e_call, e_un, e_op, e_test, e_boolD, e_bAnd, e_bOr, e_bNot, e_mAnd, e_mOr, e_mNot, e_mIf, e_chain, e_tup, e_lst, e_own, e_isN, e_notN, e_part, e_noPart, e_intD, e_sl, e_seqM, e_its, e_tupM, e_lstM, e_yes, e_el, e_gtN, e_gtNil, e_gtCons, e_gtTup, e_addI, e_subI, e_ltI, e_leI, e_gtI, e_geI, e_negI, e_lenT, e_lenL, e_tupT, e_tupL, e_lstT, e_slT, e_slL, e_ix0, e_ix1, e_ix2, e_il0, e_il1, e_il2, D.isNon, List.map_cons, List.map_nil, List.cons_append, List.nil_append, List.length_cons, List.length_nil, Nat.reduceAdd, Nat.reduceSub, List.replicate_succ, List.replicate_zero, List.set_cons_zero, List.set_cons_succ, List.getElem?_cons_zero, List.getElem?_cons_succ, Option.join_some, wipeE, if_true, if_false, reduceIte, Bool.false_eq_true, Bool.not_true, Bool.not_false, e1]
    exact e2
  · simp only [xs, List.mem_cons, List.not_mem_nil, or_false] at hx
    rcases hx with rfl | rfl | rfl | rfl | rfl | rfl | rfl | rfl | rfl | rfl | rfl | rfl
    · exact ⟨rfl, fun ys e => by cases e⟩
    · exact ⟨rfl, fun ys e => by cases e; exact ⟨by simp, fun y hy => by cases hy⟩⟩
    · exact ⟨hi.1, fun ys e => by subst e; cases hi.2⟩
    · exact ⟨rfl, fun ys e => by cases e⟩
    · exact ⟨rfl, fun ys e => by cases e⟩
    · exact ⟨rfl, fun ys e => by cases e; exact ⟨by simp, fun y hy => by simp at hy; subst hy; exact hv⟩⟩
    · exact ⟨rfl, fun ys e => by cases e⟩
    · exact ⟨rfl, fun ys e => by cases e⟩
    · exact ⟨rfl, fun ys e => by cases e⟩
    · exact ⟨rfl, fun ys e => by cases e⟩
    · exact ⟨rfl, fun ys e => by cases e⟩
    · exact ⟨rfl, fun ys e => by cases e; exact ⟨by simp, fun y hy => by simp at hy; rcases hy with rfl | rfl <;> assumption⟩⟩
/-- what a bent value is: parts by Q, at most k -/
def Bt (Q : D → Prop) (k : Nat) (r : D) : Prop := Ty r = true ∧ ∀ ys, r = .tup ys → ys.length ≤ k ∧ ∀ y ∈ ys, Q y
theorem bent_int {S : Store} {n fuel : Nat} {i : Int} (h : Dk S n) (Q : D → Prop) (hv : Q (.int i)) (q1 : Q (.str "num")) (q2 : Q (.int 1)) : ∃ r S', m__law_bent (fuel + 1) [.ref n, .int i] S = .ok r S' ∧ Ev n S S' ∧ Bt Q 3 r := by
  obtain ⟨a, S1, e1, a0, a1, v1⟩ := draw_ok (m := 5) h (by decide) (by decide)
  have t : Ty (.int i) = true := rfl
  unfold m__law_bent
  by_cases ha : 0 < a
  · obtain ⟨b, S2, e2, b0, b1, v2⟩ := draw_ok (m := 6) v1.2.2 (by decide) (by decide)
    let xs : List D := [.int 1, .int (-1), .int 2, .int (-i), .int (10 ^ (5 : Int).toNat), .int (-3)]
    obtain ⟨x, hx, _, e3⟩ := ix_seqOf (S := S2) (d := .lst xs) (b := false) (xs := xs) rfl b0 (by show b < 6; exact b1)
    obtain ⟨j, rfl⟩ : ∃ j, x = .int j := by
      simp only [xs, List.mem_cons, List.not_mem_nil, or_false] at hx
      rcases hx with rfl | rfl | rfl | rfl | rfl | rfl <;> exact ⟨_, rfl⟩
    refine ⟨.int (i + j), S2, ?_, v1.trans v2, rfl, fun ys e => by cases e⟩
    simp only [e_fnRun, e_bnd, e_bndS, e_seq, e_if, e_ret, e_retN, e_set, e_expr, e_raise, e_nil, e_par, e_asg, e_sub, e_args0, e_args1, e_rt, e_some, e_var, e_k, e_call, e_un, e_op, e_test, e_boolD, e_bAnd, e_bOr, e_bNot, e_mAnd, e_mOr, e_mNot, e_mIf, e_chain, e_tup, e_lst, e_own, e_isN, e_notN, e_part, e_noPart, e_intD, e_sl, e_seqM, e_its, e_tupM, e_lstM, e_yes, e_el, e_gtN, e_gtNil, e_gtCons, e_gtTup, e_addI, e_subI, e_ltI, e_leI, e_gtI, e_geI, e_negI, e_lenT, e_lenL, e_tupT, e_tupL, e_lstT, e_slT, e_slL, e_ix0, e_ix1, e_ix2, e_il0, e_il1, e_il2, D.isNon, List.map_cons, List.map_nil, List.cons_append, List.nil_append, List.length_cons, List.length_nil, Nat.reduceAdd, Nat.reduceSub, List.replicate_succ, List.replicate_zero, List.set_cons_zero, List.set_cons_succ, List.getElem?_cons_zero, List.getElem?_cons_succ, Option.join_some, wipeE, if_true, if_false, reduceIte, Bool.false_eq_true, Bool.not_true, Bool.not_false, ty_tup t, ty_int t, ty_bool t, isTup, isInt, isBl, Bool.or_false, e1, ha, decide_true, pow_ok (a := 10) (m := 5) (by decide) (by decide), e2]
    rw [show ixD (.lst [D.int 1, D.int (-1), D.int 2, D.int (-i), D.int (10 ^ (5 : Int).toNat), D.int (-3)]) (.int b) S2 = .ok (.int j) S2 from e3]
    simp only [e_fnRun, e_bnd, e_bndS, e_seq, e_if, e_ret, e_retN, e_set, e_expr, e_raise, e_nil, e_par, e_asg, e_sub, e_args0, e_args1, e_rt, e_some, e_var, e_k, e_call, e_un, e_op, e_test, e_boolD, e_bAnd, e_bOr, e_bNot, e_mAnd, e_mOr, e_mNot, e_mIf, e_chain, e_tup, e_lst, e_own, e_isN, e_notN, e_part, e_noPart, e_intD, e_sl, e_seqM, e_its, e_tupM, e_lstM, e_yes, e_el, e_gtN, e_gtNil, e_gtCons, e_gtTup, e_addI, e_subI, e_ltI, e_leI, e_gtI, e_geI, e_negI, e_lenT, e_lenL, e_tupT, e_tupL, e_lstT, e_slT, e_slL, e_ix0, e_ix1, e_ix2, e_il0, e_il1, e_il2, D.isNon, List.map_cons, List.map_nil, List.cons_append, List.nil_append, List.length_cons, List.length_nil, Nat.reduceAdd, Nat.reduceSub, List.replicate_succ, List.replicate_zero, List.set_cons_zero, List.set_cons_succ, List.getElem?_cons_zero, List.getElem?_cons_succ, Option.join_some, wipeE, if_true, if_false, reduceIte, Bool.false_eq_true, Bool.not_true, Bool.not_false]
  · obtain ⟨r, S2, e2, v2, t2, p2⟩ := misc_ok (v := .int i) (inner := .lst [.int i]) (k := 0) (x2 := none) (x3 := none) v1.2.2 Q ⟨rfl, rfl⟩ hv q1 q2
    refine ⟨r, S2, ?_, v1.trans v2, t2, p2⟩
    rw [e_fnRun]
    simp only [List.map_cons, List.map_nil, List.cons_append, List.nil_append, List.length_cons, List.length_nil, Nat.reduceAdd, Nat.reduceSub, List.replicate_succ, List.replicate_zero]
    rw [e_seq, e_if]
    simp only [e_fnRun, e_bnd, e_bndS, e_seq, e_if, e_ret, e_retN, e_set, e_expr, e_raise, e_nil, e_par, e_asg, e_sub, e_args0, e_args1, e_rt, e_some, e_var, e_k, e_call, e_un, e_op, e_test, e_boolD, e_bAnd, e_bOr, e_bNot, e_mAnd, e_mOr, e_mNot, e_mIf, e_chain, e_tup, e_lst, e_own, e_isN, e_notN, e_part, e_noPart, e_intD, e_sl, e_seqM, e_its, e_tupM, e_lstM, e_yes, e_el, e_gtN, e_gtNil, e_gtCons, e_gtTup, e_addI, e_subI, e_ltI, e_leI, e_gtI, e_geI, e_negI, e_lenT, e_lenL, e_tupT, e_tupL, e_lstT, e_slT, e_slL, e_ix0, e_ix1, e_ix2, e_il0, e_il1, e_il2, D.isNon, List.map_cons, List.map_nil, List.cons_append, List.nil_append, List.length_cons, List.length_nil, Nat.reduceAdd, Nat.reduceSub, List.replicate_succ, List.replicate_zero, List.set_cons_zero, List.set_cons_succ, List.getElem?_cons_zero, List.getElem?_cons_succ, Option.join_some, wipeE, if_true, if_false, reduceIte, Bool.false_eq_true, Bool.not_true, Bool.not_false, ty_tup t, ty_int t, ty_bool t, isTup, isInt, isBl, Bool.or_false, e1, ha, decide_false]
    revert e2
    simp only [e_fnRun, e_bnd, e_bndS, e_seq, e_if, e_ret, e_retN, e_set, e_expr, e_raise, e_nil, e_par, e_asg, e_sub, e_args0, e_args1, e_rt, e_some, e_var, e_k, e_call, e_un, e_op, e_test, e_boolD, e_bAnd, e_bOr, e_bNot, e_mAnd, e_mOr, e_mNot, e_mIf, e_chain, e_tup, e_lst, e_own, e_isN, e_notN, e_part, e_noPart, e_intD, e_sl, e_seqM, e_its, e_tupM, e_lstM, e_yes, e_el, e_gtN, e_gtNil, e_gtCons, e_gtTup, e_addI, e_subI, e_ltI, e_leI, e_gtI, e_geI, e_negI, e_lenT, e_lenL, e_tupT, e_tupL, e_lstT, e_slT, e_slL, e_ix0, e_ix1, e_ix2, e_il0, e_il1, e_il2, D.isNon, List.map_cons, List.map_nil, List.cons_append, List.nil_append, List.length_cons, List.length_nil, Nat.reduceAdd, Nat.reduceSub, List.replicate_succ, List.replicate_zero, List.set_cons_zero, List.set_cons_succ, List.getElem?_cons_zero, List.getElem?_cons_succ, Option.join_some, wipeE, if_true, if_false, reduceIte, Bool.false_eq_true, Bool.not_true, Bool.not_false]
    intro e2
    rw [e2]
theorem cut_lo (xs : List D) (k : Nat) : cutD xs none (some (k : Int)) = xs.take k := by
  unfold cutD
  rw [show HT.sIx xs.length 0 none = 0 from rfl, HT.sIx_nat, List.drop_zero, Nat.sub_zero, List.take_eq_take_iff]
  omega
theorem cut_hi (xs : List D) (k : Nat) : cutD xs (some (k : Int)) none = xs.drop k := by
  unfold cutD
  rw [show HT.sIx xs.length xs.length none = xs.length from rfl, HT.sIx_nat]
  rw [List.take_of_length_le (by rw [List.length_drop]; omega)]
  by_cases h : k ≤ xs.length
  · rw [Nat.min_eq_left h]
  · rw [Nat.min_eq_right (by omega), List.drop_eq_nil_of_le (by omega), List.drop_eq_nil_of_le (by omega)]
theorem pl_ne {xs : List D} {ps : List PyData} (h : pyDs xs = some ps) (hc : PyData.canLayAll0 ps = true) (S : Store) : neD (.tup xs) (.tup []) S = .ok (.bl (decide (xs ≠ []))) S := by
  have hk : eqOk (.tuple ps) (.tuple []) := ⟨by simp only [PyData.canLay0]; exact hc, rfl, by simp [PyData.depth, PyData.depthAll]⟩
  simp only [neD, pyOf, pyD, h, Option.map_some, pyDs, if_pos hk, PyData.eqv]
  congr 2
  cases xs with
  | nil => cases h; rfl
  | cons x xs =>
    simp only [pyDs] at h
    split at h
    · cases h; rfl
    · cases h
theorem bent_tup {S : Store} {n fuel : Nat} {xs : List D} {ps : List PyData} (hpy : pyDs xs = some ps) (hlay : PyData.canLayAll0 ps = true) (h : Dk S n) (hl : xs.length ≤ 50) (Q : D → Prop) (hx : ∀ x ∈ xs, Q x) (hv : Q (.tup xs)) (q1 : Q (.str "num")) (q2 : Q (.int 1))
    (hb : ∀ x ∈ xs, ∀ S, Dk S n → ∃ r S', m__law_bent fuel [.ref n, x] S = .ok r S' ∧ Ev n S S' ∧ Q r) : ∃ r S', m__law_bent (fuel + 1) [.ref n, .tup xs] S = .ok r S' ∧ Ev n S S' ∧ Bt Q (max (xs.length + 1) 3) r := by
  have t : Ty (.tup xs) = true := rfl
  have hs := sl_small
  have ne := pl_ne hpy hlay
  -- the last way out
  have last : ∀ S1, Dk S1 n → Ev n S S1 → ∀ x2 x3, ∃ r S', (match mOp ixD (mLst [(mK .non), (mTup []), (mVar 4), (mK (.bl true)), (mK (.str "num")), (mTup [(mVar 1)]), (mK (.int 0)), (mK (.dic [] [])), (mK (.str "x")), (mK (.str "app")), (mK (.str "int")), (mTup [(mK (.str "num")), (mK (.int 1)), (mK (.int 1))])]) (mCall m__law_draw [(mVar 0), (mK (.int 12))])
      [some (.ref n), some (.tup xs), x2, x3, some (.lst xs)] S1 with | .ok d S => R.ok d S | .err c S => .err c S | .stuck => .stuck) = R.ok r S' ∧ Ev n S S' ∧ Bt Q (max (xs.length + 1) 3) r := by
    intro S1 h1 v1 x2 x3
    obtain ⟨r, S2, e2, v2, t2, p2⟩ := misc_ok (v := .tup xs) (inner := .lst xs) (k := 0) (x2 := x2) (x3 := x3) h1 Q ⟨rfl, rfl⟩ hv q1 q2
    exact ⟨r, S2, by rw [e2], v1.trans v2, t2, fun ys e => ⟨by have := (p2 ys e).1; omega, (p2 ys e).2⟩⟩
  by_cases hx0 : xs = []
  · subst hx0
    obtain ⟨r, S', e, v, b⟩ := last S h (Ev.refl h) none none
    refine ⟨r, S', ?_, v, b⟩
    unfold m__law_bent
    simp only [e_fnRun, e_bnd, e_bndS, e_seq, e_if, e_ret, e_retN, e_set, e_expr, e_raise, e_nil, e_par, e_asg, e_sub, e_args0, e_args1, e_rt, e_some, e_var, e_k, e_call, e_un, e_op, e_test, e_boolD, e_bAnd, e_bOr, e_bNot, e_mAnd, e_mOr, e_mNot, e_mIf, e_chain, e_tup, e_lst, e_own, e_isN, e_notN, e_part, e_noPart, e_intD, e_sl, e_seqM, e_its, e_tupM, e_lstM, e_yes, e_el, e_gtN, e_gtNil, e_gtCons, e_gtTup, e_addI, e_subI, e_ltI, e_leI, e_gtI, e_geI, e_negI, e_lenT, e_lenL, e_tupT, e_tupL, e_lstT, e_slT, e_slL, e_ix0, e_ix1, e_ix2, e_il0, e_il1, e_il2, D.isNon, List.map_cons, List.map_nil, List.cons_append, List.nil_append, List.length_cons, List.length_nil, Nat.reduceAdd, Nat.reduceSub, List.replicate_succ, List.replicate_zero, List.set_cons_zero, List.set_cons_succ, List.getElem?_cons_zero, List.getElem?_cons_succ, Option.join_some, wipeE, if_true, if_false, reduceIte, Bool.false_eq_true, Bool.not_true, Bool.not_false, ty_tup t, ty_int t, isTup, isInt, isBl, Bool.or_false, ne, ne_eq, not_true, decide_false]
    revert e
    simp only [e_fnRun, e_bnd, e_bndS, e_seq, e_if, e_ret, e_retN, e_set, e_expr, e_raise, e_nil, e_par, e_asg, e_sub, e_args0, e_args1, e_rt, e_some, e_var, e_k, e_call, e_un, e_op, e_test, e_boolD, e_bAnd, e_bOr, e_bNot, e_mAnd, e_mOr, e_mNot, e_mIf, e_chain, e_tup, e_lst, e_own, e_isN, e_notN, e_part, e_noPart, e_intD, e_sl, e_seqM, e_its, e_tupM, e_lstM, e_yes, e_el, e_gtN, e_gtNil, e_gtCons, e_gtTup, e_addI, e_subI, e_ltI, e_leI, e_gtI, e_geI, e_negI, e_lenT, e_lenL, e_tupT, e_tupL, e_lstT, e_slT, e_slL, e_ix0, e_ix1, e_ix2, e_il0, e_il1, e_il2, D.isNon, List.map_cons, List.map_nil, List.cons_append, List.nil_append, List.length_cons, List.length_nil, Nat.reduceAdd, Nat.reduceSub, List.replicate_succ, List.replicate_zero, List.set_cons_zero, List.set_cons_succ, List.getElem?_cons_zero, List.getElem?_cons_succ, Option.join_some, wipeE, if_true, if_false, reduceIte, Bool.false_eq_true, Bool.not_true, Bool.not_false]
    intro e
    split at e <;> first | (rename_i q; rw [q]; cases e; rfl) | cases e
  · obtain ⟨a, S1, e1, a0, a1, v1⟩ := draw_ok (m := 6) h (by decide) (by decide)
    by_cases ha : 0 < a
    · have hp : 0 < xs.length := List.length_pos_iff.mpr hx0
      obtain ⟨kI, S2, e2, k0, k1, v2⟩ := draw_ok (m := xs.length) v1.2.2 (by omega) (by omega)
      obtain ⟨k, rfl⟩ : ∃ k : Nat, kI = k := ⟨kI.toNat, by omega⟩
      obtain ⟨w, S3, e3, w0, w1, v3⟩ := draw_ok (m := 9) v2.2.2 (by decide) (by decide)
      have v := (v1.trans v2).trans v3
      have hk : k < xs.length := by omega
      have ek : (k : Int) + 1 = ((k + 1 : Nat) : Int) := by omega
      have hmt : ∀ y ∈ xs.take k, Q y := fun y hy => hx y (List.mem_of_mem_take hy)
      have hmd : ∀ y ∈ xs.drop (k + 1), Q y := fun y hy => hx y (List.mem_of_mem_drop hy)
      have lt : (xs.take k).length = k := by rw [List.length_take]; omega
      have ld : (xs.drop (k + 1)).length = xs.length - (k + 1) := List.length_drop
      have ld2 : (xs.drop k).length = xs.length - k := List.length_drop
      have ix : ∀ S, ixD (.tup xs) (.int (k : Int)) S = .ok xs[k] S := fun S => e_ixT (by simp [hk])
      by_cases w00 : w = 0
      · subst w00
        refine ⟨.tup (xs.take k ++ xs.drop (k + 1)), S3, ?_, v, rfl, fun ys e => ?_⟩
        · unfold m__law_bent
          simp only [e_fnRun, e_bnd, e_bndS, e_seq, e_if, e_ret, e_retN, e_set, e_expr, e_raise, e_nil, e_par, e_asg, e_sub, e_args0, e_args1, e_rt, e_some, e_var, e_k, e_call, e_un, e_op, e_test, e_boolD, e_bAnd, e_bOr, e_bNot, e_mAnd, e_mOr, e_mNot, e_mIf, e_chain, e_tup, e_lst, e_own, e_isN, e_notN, e_part, e_noPart, e_intD, e_sl, e_seqM, e_its, e_tupM, e_lstM, e_yes, e_el, e_gtN, e_gtNil, e_gtCons, e_gtTup, e_addI, e_subI, e_ltI, e_leI, e_gtI, e_geI, e_negI, e_lenT, e_lenL, e_tupT, e_tupL, e_lstT, e_slT, e_slL, e_ix0, e_ix1, e_ix2, e_il0, e_il1, e_il2, D.isNon, List.map_cons, List.map_nil, List.cons_append, List.nil_append, List.length_cons, List.length_nil, Nat.reduceAdd, Nat.reduceSub, List.replicate_succ, List.replicate_zero, List.set_cons_zero, List.set_cons_succ, List.getElem?_cons_zero, List.getElem?_cons_succ, Option.join_some, wipeE, if_true, if_false, reduceIte, Bool.false_eq_true, Bool.not_true, Bool.not_false, ty_tup t, ty_int t, isTup, isInt, isBl, Bool.or_false, ne, ne_eq, hx0, not_false_eq_true, decide_true, e1, ha, e2, e3, i00, cut_lo, ek, cut_hi]
          rw [e_addT (by omega)]
        · cases e
          refine ⟨by rw [List.length_append]; omega, fun y hy => ?_⟩
          rcases List.mem_append.mp hy with z | z
          · exact hmt y z
          · exact hmd y z
      · by_cases w01 : w = 1
        · subst w01
          refine ⟨.tup (xs.take k ++ [xs[k], xs[k]] ++ xs.drop (k + 1)), S3, ?_, v, rfl, fun ys e => ?_⟩
          · unfold m__law_bent
            simp only [e_fnRun, e_bnd, e_bndS, e_seq, e_if, e_ret, e_retN, e_set, e_expr, e_raise, e_nil, e_par, e_asg, e_sub, e_args0, e_args1, e_rt, e_some, e_var, e_k, e_call, e_un, e_op, e_test, e_boolD, e_bAnd, e_bOr, e_bNot, e_mAnd, e_mOr, e_mNot, e_mIf, e_chain, e_tup, e_lst, e_own, e_isN, e_notN, e_part, e_noPart, e_intD, e_sl, e_seqM, e_its, e_tupM, e_lstM, e_yes, e_el, e_gtN, e_gtNil, e_gtCons, e_gtTup, e_addI, e_subI, e_ltI, e_leI, e_gtI, e_geI, e_negI, e_lenT, e_lenL, e_tupT, e_tupL, e_lstT, e_slT, e_slL, e_ix0, e_ix1, e_ix2, e_il0, e_il1, e_il2, D.isNon, List.map_cons, List.map_nil, List.cons_append, List.nil_append, List.length_cons, List.length_nil, Nat.reduceAdd, Nat.reduceSub, List.replicate_succ, List.replicate_zero, List.set_cons_zero, List.set_cons_succ, List.getElem?_cons_zero, List.getElem?_cons_succ, Option.join_some, wipeE, if_true, if_false, reduceIte, Bool.false_eq_true, Bool.not_true, Bool.not_false, ty_tup t, ty_int t, isTup, isInt, isBl, Bool.or_false, ne, ne_eq, hx0, not_false_eq_true, decide_true, e1, ha, e2, e3, i10, i11, cut_lo, ek, cut_hi, ix]
            rw [e_addT (by simp only [List.length_cons, List.length_nil]; omega)]
            simp only [e_fnRun, e_bnd, e_bndS, e_seq, e_if, e_ret, e_retN, e_set, e_expr, e_raise, e_nil, e_par, e_asg, e_sub, e_args0, e_args1, e_rt, e_some, e_var, e_k, e_call, e_un, e_op, e_test, e_boolD, e_bAnd, e_bOr, e_bNot, e_mAnd, e_mOr, e_mNot, e_mIf, e_chain, e_tup, e_lst, e_own, e_isN, e_notN, e_part, e_noPart, e_intD, e_sl, e_seqM, e_its, e_tupM, e_lstM, e_yes, e_el, e_gtN, e_gtNil, e_gtCons, e_gtTup, e_addI, e_subI, e_ltI, e_leI, e_gtI, e_geI, e_negI, e_lenT, e_lenL, e_tupT, e_tupL, e_lstT, e_slT, e_slL, e_ix0, e_ix1, e_ix2, e_il0, e_il1, e_il2, D.isNon, List.map_cons, List.map_nil, List.cons_append, List.nil_append, List.length_cons, List.length_nil, Nat.reduceAdd, Nat.reduceSub, List.replicate_succ, List.replicate_zero, List.set_cons_zero, List.set_cons_succ, List.getElem?_cons_zero, List.getElem?_cons_succ, Option.join_some, wipeE, if_true, if_false, reduceIte, Bool.false_eq_true, Bool.not_true, Bool.not_false]
            rw [e_addT (by rw [List.length_append]; simp only [List.length_cons, List.length_nil]; omega)]
          · cases e
            refine ⟨by simp only [List.length_append, List.length_cons, List.length_nil]; omega, fun y hy => ?_⟩
            rcases List.mem_append.mp hy with z | z
            · rcases List.mem_append.mp z with z | z
              · exact hmt y z
              · simp at z; subst z; exact hx _ (List.getElem_mem hk)
            · exact hmd y z
        · by_cases w02 : w = 2
          · subst w02
            refine ⟨.tup (xs.take k ++ (xs.drop k).reverse), S3, ?_, v, rfl, fun ys e => ?_⟩
            · unfold m__law_bent
              simp only [e_fnRun, e_bnd, e_bndS, e_seq, e_if, e_ret, e_retN, e_set, e_expr, e_raise, e_nil, e_par, e_asg, e_sub, e_args0, e_args1, e_rt, e_some, e_var, e_k, e_call, e_un, e_op, e_test, e_boolD, e_bAnd, e_bOr, e_bNot, e_mAnd, e_mOr, e_mNot, e_mIf, e_chain, e_tup, e_lst, e_own, e_isN, e_notN, e_part, e_noPart, e_intD, e_sl, e_seqM, e_its, e_tupM, e_lstM, e_yes, e_el, e_gtN, e_gtNil, e_gtCons, e_gtTup, e_addI, e_subI, e_ltI, e_leI, e_gtI, e_geI, e_negI, e_lenT, e_lenL, e_tupT, e_tupL, e_lstT, e_slT, e_slL, e_ix0, e_ix1, e_ix2, e_il0, e_il1, e_il2, D.isNon, List.map_cons, List.map_nil, List.cons_append, List.nil_append, List.length_cons, List.length_nil, Nat.reduceAdd, Nat.reduceSub, List.replicate_succ, List.replicate_zero, List.set_cons_zero, List.set_cons_succ, List.getElem?_cons_zero, List.getElem?_cons_succ, Option.join_some, wipeE, if_true, if_false, reduceIte, Bool.false_eq_true, Bool.not_true, Bool.not_false, ty_tup t, ty_int t, isTup, isInt, isBl, Bool.or_false, ne, ne_eq, hx0, not_false_eq_true, decide_true, e1, ha, e2, e3, i20, i21, i22, cut_lo, ek, cut_hi, backD]
              rw [e_addT (by rw [List.length_reverse]; omega)]
            · cases e
              refine ⟨by simp only [List.length_append, List.length_reverse]; omega, fun y hy => ?_⟩
              rcases List.mem_append.mp hy with z | z
              · exact hmt y z
              · exact hx y (List.mem_of_mem_drop (List.mem_reverse.mp z))
          · obtain ⟨r, S4, e4, v4, q4⟩ := hb xs[k] (List.getElem_mem hk) S3 v.2.2
            refine ⟨.tup (xs.take k ++ [r] ++ xs.drop (k + 1)), S4, ?_, v.trans v4, rfl, fun ys e => ?_⟩
            · unfold m__law_bent
              simp only [e_fnRun, e_bnd, e_bndS, e_seq, e_if, e_ret, e_retN, e_set, e_expr, e_raise, e_nil, e_par, e_asg, e_sub, e_args0, e_args1, e_rt, e_some, e_var, e_k, e_call, e_un, e_op, e_test, e_boolD, e_bAnd, e_bOr, e_bNot, e_mAnd, e_mOr, e_mNot, e_mIf, e_chain, e_tup, e_lst, e_own, e_isN, e_notN, e_part, e_noPart, e_intD, e_sl, e_seqM, e_its, e_tupM, e_lstM, e_yes, e_el, e_gtN, e_gtNil, e_gtCons, e_gtTup, e_addI, e_subI, e_ltI, e_leI, e_gtI, e_geI, e_negI, e_lenT, e_lenL, e_tupT, e_tupL, e_lstT, e_slT, e_slL, e_ix0, e_ix1, e_ix2, e_il0, e_il1, e_il2, D.isNon, List.map_cons, List.map_nil, List.cons_append, List.nil_append, List.length_cons, List.length_nil, Nat.reduceAdd, Nat.reduceSub, List.replicate_succ, List.replicate_zero, List.set_cons_zero, List.set_cons_succ, List.getElem?_cons_zero, List.getElem?_cons_succ, Option.join_some, wipeE, if_true, if_false, reduceIte, Bool.false_eq_true, Bool.not_true, Bool.not_false, ty_tup t, ty_int t, isTup, isInt, isBl, Bool.or_false, ne, ne_eq, hx0, not_false_eq_true, decide_true, e1, ha, e2, e3, eq_int, w00, w01, w02, decide_false, cut_lo, ek, cut_hi, ix, e4]
              rw [e_addT (by simp only [List.length_cons, List.length_nil]; omega)]
              simp only [e_fnRun, e_bnd, e_bndS, e_seq, e_if, e_ret, e_retN, e_set, e_expr, e_raise, e_nil, e_par, e_asg, e_sub, e_args0, e_args1, e_rt, e_some, e_var, e_k, e_call, e_un, e_op, e_test, e_boolD, e_bAnd, e_bOr, e_bNot, e_mAnd, e_mOr, e_mNot, e_mIf, e_chain, e_tup, e_lst, e_own, e_isN, e_notN, e_part, e_noPart, e_intD, e_sl, e_seqM, e_its, e_tupM, e_lstM, e_yes, e_el, e_gtN, e_gtNil, e_gtCons, e_gtTup, e_addI, e_subI, e_ltI, e_leI, e_gtI, e_geI, e_negI, e_lenT, e_lenL, e_tupT, e_tupL, e_lstT, e_slT, e_slL, e_ix0, e_ix1, e_ix2, e_il0, e_il1, e_il2, D.isNon, List.map_cons, List.map_nil, List.cons_append, List.nil_append, List.length_cons, List.length_nil, Nat.reduceAdd, Nat.reduceSub, List.replicate_succ, List.replicate_zero, List.set_cons_zero, List.set_cons_succ, List.getElem?_cons_zero, List.getElem?_cons_succ, Option.join_some, wipeE, if_true, if_false, reduceIte, Bool.false_eq_true, Bool.not_true, Bool.not_false]
              rw [e_addT (by rw [List.length_append]; simp only [List.length_cons, List.length_nil]; omega)]
            · cases e
              refine ⟨by simp only [List.length_append, List.length_cons, List.length_nil]; omega, fun y hy => ?_⟩
              rcases List.mem_append.mp hy with z | z
              · rcases List.mem_append.mp z with z | z
                · exact hmt y z
                · simp at z; subst z; exact q4
              · exact hmd y z
    · obtain ⟨r, S', e, v, b⟩ := last S1 v1.2.2 v1 none none
      refine ⟨r, S', ?_, v, b⟩
      unfold m__law_bent
      simp only [e_fnRun, e_bnd, e_bndS, e_seq, e_if, e_ret, e_retN, e_set, e_expr, e_raise, e_nil, e_par, e_asg, e_sub, e_args0, e_args1, e_rt, e_some, e_var, e_k, e_call, e_un, e_op, e_test, e_boolD, e_bAnd, e_bOr, e_bNot, e_mAnd, e_mOr, e_mNot, e_mIf, e_chain, e_tup, e_lst, e_own, e_isN, e_notN, e_part, e_noPart, e_intD, e_sl, e_seqM, e_its, e_tupM, e_lstM, e_yes, e_el, e_gtN, e_gtNil, e_gtCons, e_gtTup, e_addI, e_subI, e_ltI, e_leI, e_gtI, e_geI, e_negI, e_lenT, e_lenL, e_tupT, e_tupL, e_lstT, e_slT, e_slL, e_ix0, e_ix1, e_ix2, e_il0, e_il1, e_il2, D.isNon, List.map_cons, List.map_nil, List.cons_append, List.nil_append, List.length_cons, List.length_nil, Nat.reduceAdd, Nat.reduceSub, List.replicate_succ, List.replicate_zero, List.set_cons_zero, List.set_cons_succ, List.getElem?_cons_zero, List.getElem?_cons_succ, Option.join_some, wipeE, if_true, if_false, reduceIte, Bool.false_eq_true, Bool.not_true, Bool.not_false, ty_tup t, ty_int t, isTup, isInt, isBl, Bool.or_false, ne, ne_eq, hx0, not_false_eq_true, decide_true, e1, ha, decide_false]
      revert e
      simp only [e_fnRun, e_bnd, e_bndS, e_seq, e_if, e_ret, e_retN, e_set, e_expr, e_raise, e_nil, e_par, e_asg, e_sub, e_args0, e_args1, e_rt, e_some, e_var, e_k, e_call, e_un, e_op, e_test, e_boolD, e_bAnd, e_bOr, e_bNot, e_mAnd, e_mOr, e_mNot, e_mIf, e_chain, e_tup, e_lst, e_own, e_isN, e_notN, e_part, e_noPart, e_intD, e_sl, e_seqM, e_its, e_tupM, e_lstM, e_yes, e_el, e_gtN, e_gtNil, e_gtCons, e_gtTup, e_addI, e_subI, e_ltI, e_leI, e_gtI, e_geI, e_negI, e_lenT, e_lenL, e_tupT, e_tupL, e_lstT, e_slT, e_slL, e_ix0, e_ix1, e_ix2, e_il0, e_il1, e_il2, D.isNon, List.map_cons, List.map_nil, List.cons_append, List.nil_append, List.length_cons, List.length_nil, Nat.reduceAdd, Nat.reduceSub, List.replicate_succ, List.replicate_zero, List.set_cons_zero, List.set_cons_succ, List.getElem?_cons_zero, List.getElem?_cons_succ, Option.join_some, wipeE, if_true, if_false, reduceIte, Bool.false_eq_true, Bool.not_true, Bool.not_false]
      intro e
      split at e <;> first | (rename_i q; rw [q]; cases e; rfl) | cases e

theorem e_mt {g : D → List D → M D} {mo : Mir.Env → M D} {ms : List (Mir.Env → M D)} {env : Mir.Env} {S : Store} : mMtL g mo ms env S = bnd (mo env) (fun o S => match lstAt S o with
  | some _ => bnd (mArgs ms env) (fun ds => g o ds) S
  | none => .stuck) S := rfl
theorem lst_ref {S : Store} {p : Nat} {xs : List D} (e : S[p]? = some (.lst xs)) : lstAt S (.ref p) = some xs := by simp only [lstAt, e]
theorem seq_ref {S : Store} {p : Nat} {xs : List D} (e : S[p]? = some (.lst xs)) : seqOf S (.ref p) = some (false, xs) := by simp only [seqOf, e]
theorem pop_ok {S : Store} {p k : Nat} {xs : List D} {d : D} (e : S[p]? = some (.lst xs)) (hd : xs[k]? = some d) (hz : xs.length ≤ 1000) : popD (.ref p) [.int (k : Int)] S = .ok d (S.set p (.lst (xs.eraseIdx k))) := by
  have hk : k < xs.length := (List.getElem?_eq_some_iff.mp hd).1
  have a1 : seqIndex? (k : Int) xs.length = some k := by
    unfold seqIndex?
    have h0 : ¬ ((k : Int) < 0) := by omega
    simp only [h0, if_false]
    simp [hk]
  simp only [popD, e, a1, hd]
  rw [if_pos ⟨by omega, by omega⟩]
theorem app_ok {S : Store} {p : Nat} {xs : List D} {d : D} (e : S[p]? = some (.lst xs)) (hz : xs.length ≤ 999) : appD (.ref p) [d] S = .ok .non (S.set p (.lst (xs ++ [d]))) := by
  have hs := sl_small
  simp only [appD, e]
  rw [if_pos (by omega)]
theorem ext_ok {S : Store} {p : Nat} {xs zs : List D} (e : S[p]? = some (.lst xs)) (hz : xs.length + zs.length ≤ 1000) : extD (.ref p) [.lst zs] S = .ok .non (S.set p (.lst (xs ++ zs))) := by
  have hs := sl_small
  simp only [extD, e]
  rw [if_pos (by omega)]
theorem set_at {S : Store} {p : Nat} {o o' : Ob} (e : S[p]? = some o) : (S.set p o')[p]? = some o' := by
  have hn : p < S.length := (List.getElem?_eq_some_iff.mp e).1
  simp [hn]
theorem set_off {S : Store} {p q : Nat} {o' : Ob} (h : q ≠ p) : (S.set p o')[q]? = S[q]? := List.getElem?_set_ne (Ne.symm h)
theorem dk_set {S : Store} {n p : Nat} {o : Ob} (h : Dk S n) (hp : n ≠ p) : Dk (S.set p o) n := by
  obtain ⟨a, b, e⟩ := h
  exact ⟨a, b, by rw [set_off hp]; exact e⟩

theorem erase_map {α β : Type} (f : α → β) : ∀ (xs : List α) (i : Nat), (xs.map f).eraseIdx i = (xs.eraseIdx i).map f
  | [], _ => rfl
  | x :: xs, 0 => rfl
  | x :: xs, i + 1 => by simp only [List.map_cons, List.eraseIdx_cons_succ, erase_map f xs i]

def Wf (c : Int) (ws fs : List Int) : Prop := (∀ w ∈ ws, 1 ≤ w ∧ w ≤ c) ∧ ws.Nodup ∧ (∀ f ∈ fs, f ≠ 0 ∧ -c ≤ f ∧ f ≤ c ∧ absZ f ∉ ws) ∧ (fs.map absZ).Nodup
noncomputable def scBody : MS := (sSeq (sSet 6 (mMtL popD (mVar 3) [(mCall m__law_draw [(mVar 0), (mCall lenD [(mVar 3)])])]))
  (sExpr (mMtL appD (mVar 4) [(mCall m__law_pick [(mVar 0), (mLst [(mVar 6), (mUn negD (mVar 6))])])])))
theorem sc_body {S : Store} {n p q : Nat} {c : Int} {ws fs : List Int} {a b x5 x6 : Option D} (h : Dk S n) (hp : S[p]? = some (.lst (ws.map .int))) (hq : S[q]? = some (.lst (fs.map .int))) (np : n ≠ p) (nq : n ≠ q) (pq : p ≠ q) (w : Wf c ws fs) (hw : 0 < ws.length) (hz : ws.length ≤ 100) (hz2 : fs.length ≤ 100) :
    ∃ x6' S' ws' fs', scBody [some (.ref n), a, b, some (.ref p), some (.ref q), x5, x6] S = .nx [some (.ref n), a, b, some (.ref p), some (.ref q), x5, x6'] S' ∧ Dk S' n ∧ S'[p]? = some (.lst (ws'.map .int)) ∧ S'[q]? = some (.lst (fs'.map .int)) ∧ Wf c ws' fs' ∧ ws'.length + 1 = ws.length ∧ fs'.length = fs.length + 1 := by
  obtain ⟨rI, S1, e1, r0, r1, v1⟩ := draw_ok (m := ws.length) h (by omega) (by omega)
  obtain ⟨r, rfl⟩ : ∃ r : Nat, rI = r := ⟨rI.toNat, by omega⟩
  have hr : r < ws.length := by omega
  have hp1 : S1[p]? = some (.lst (ws.map .int)) := by rw [v1.2.1 p (Ne.symm np)]; exact hp
  have hq1 : S1[q]? = some (.lst (fs.map .int)) := by rw [v1.2.1 q (Ne.symm nq)]; exact hq
  have e2 := pop_ok (k := r) (d := .int ws[r]) hp1 (by simp [hr]) (by rw [List.length_map]; omega)
  let S2 := S1.set p (.lst ((ws.map D.int).eraseIdx r))
  have h2 : Dk S2 n := dk_set v1.2.2 np
  have hp2 : S2[p]? = some (.lst ((ws.map D.int).eraseIdx r)) := set_at hp1
  have hq2 : S2[q]? = some (.lst (fs.map .int)) := by
    show (S1.set p _)[q]? = _
    rw [set_off (Ne.symm pq)]; exact hq1
  obtain ⟨x, S3, e3, hx, v3⟩ := pick_ok (row := .lst [.int ws[r], .int (-ws[r])]) (b := false) (xs := [.int ws[r], .int (-ws[r])]) h2 (fun _ _ => rfl) (by simp) (by simp)
  obtain ⟨f, rfl, hf⟩ : ∃ f : Int, x = .int f ∧ absZ f = ws[r] ∧ (f = ws[r] ∨ f = -ws[r]) := by
    have hwr := w.1 ws[r] (List.getElem_mem hr)
    simp only [List.mem_cons, List.not_mem_nil, or_false] at hx
    rcases hx with rfl | rfl
    · exact ⟨_, rfl, by unfold absZ; split <;> omega, .inl rfl⟩
    · exact ⟨_, rfl, by unfold absZ; split <;> omega, .inr rfl⟩
  have hp3 : S3[p]? = some (.lst ((ws.map D.int).eraseIdx r)) := by rw [v3.2.1 p (Ne.symm np)]; exact hp2
  have hq3 : S3[q]? = some (.lst (fs.map .int)) := by rw [v3.2.1 q (Ne.symm nq)]; exact hq2
  have e4 := app_ok (d := .int f) hq3 (by rw [List.length_map]; omega)
  refine ⟨some (.int ws[r]), S3.set q (.lst (fs.map D.int ++ [.int f])), ws.eraseIdx r, fs ++ [f], ?_, dk_set v3.2.2 nq, ?_, ?_, ?_, ?_, by simp⟩
  · unfold scBody
    simp only [e_fnRun, e_bnd, e_bndS, e_seq, e_if, e_ret, e_retN, e_set, e_expr, e_raise, e_nil, e_par, e_asg, e_sub, e_args0, e_args1, e_rt, e_some, e_var, e_k, e_call, e_un, e_op, e_test, e_boolD, e_bAnd, e_bOr, e_bNot, e_mAnd, e_mOr, e_mNot, e_mIf, e_chain, e_tup, e_lst, e_own, e_isN, e_notN, e_part, e_noPart, e_intD, e_sl, e_seqM, e_its, e_tupM, e_lstM, e_yes, e_el, e_gtN, e_gtNil, e_gtCons, e_gtTup, e_addI, e_subI, e_ltI, e_leI, e_gtI, e_geI, e_negI, e_lenT, e_lenL, e_tupT, e_tupL, e_lstT, e_slT, e_slL, e_ix0, e_ix1, e_ix2, e_il0, e_il1, e_il2, D.isNon, List.map_cons, List.map_nil, List.cons_append, List.nil_append, List.length_cons, List.length_nil, Nat.reduceAdd, Nat.reduceSub, List.replicate_succ, List.replicate_zero, List.set_cons_zero, List.set_cons_succ, List.getElem?_cons_zero, List.getElem?_cons_succ, Option.join_some, wipeE, if_true, if_false, reduceIte, Bool.false_eq_true, Bool.not_true, Bool.not_false, e_mt, lst_ref hp, len_seq (seq_ref hp), List.length_map, e1, e2]
    rw [show S1.set p (.lst ((ws.map D.int).eraseIdx r)) = S2 from rfl]
    simp only [e_fnRun, e_bnd, e_bndS, e_seq, e_if, e_ret, e_retN, e_set, e_expr, e_raise, e_nil, e_par, e_asg, e_sub, e_args0, e_args1, e_rt, e_some, e_var, e_k, e_call, e_un, e_op, e_test, e_boolD, e_bAnd, e_bOr, e_bNot, e_mAnd, e_mOr, e_mNot, e_mIf, e_chain, e_tup, e_lst, e_own, e_isN, e_notN, e_part, e_noPart, e_intD, e_sl, e_seqM, e_its, e_tupM, e_lstM, e_yes, e_el, e_gtN, e_gtNil, e_gtCons, e_gtTup, e_addI, e_subI, e_ltI, e_leI, e_gtI, e_geI, e_negI, e_lenT, e_lenL, e_tupT, e_tupL, e_lstT, e_slT, e_slL, e_ix0, e_ix1, e_ix2, e_il0, e_il1, e_il2, D.isNon, List.map_cons, List.map_nil, List.cons_append, List.nil_append, List.length_cons, List.length_nil, Nat.reduceAdd, Nat.reduceSub, List.replicate_succ, List.replicate_zero, List.set_cons_zero, List.set_cons_succ, List.getElem?_cons_zero, List.getElem?_cons_succ, Option.join_some, wipeE, if_true, if_false, reduceIte, Bool.false_eq_true, Bool.not_true, Bool.not_false, e_mt, lst_ref hq2, e3, e4]
  · rw [set_off pq, hp3, erase_map]
  · rw [set_at hq3]
    simp
  · obtain ⟨w1, w2, w3, w4⟩ := w
    have sub : ∀ y, y ∈ ws.eraseIdx r → y ∈ ws := fun y hy => List.mem_of_mem_eraseIdx hy
    have notin : ws[r] ∉ ws.eraseIdx r := by
      intro hm
      obtain ⟨i, hi, ei⟩ := List.mem_iff_getElem.mp hm
      rw [List.getElem_eraseIdx] at ei
      have hp := List.pairwise_iff_getElem.mp w2
      split at ei
      · rename_i c1
        exact hp i r (by omega) hr c1 ei
      · rename_i c1
        have hl : (ws.eraseIdx r).length = ws.length - 1 := List.length_eraseIdx_of_lt hr
        exact hp r (i + 1) hr (by omega) (by omega) ei.symm
    refine ⟨fun y hy => w1 y (sub y hy), w2.sublist (List.eraseIdx_sublist _ _), fun g hg => ?_, ?_⟩
    · rcases List.mem_append.mp hg with hg | hg
      · have := w3 g hg
        exact ⟨this.1, this.2.1, this.2.2.1, fun z => this.2.2.2 (sub _ z)⟩
      · simp at hg
        subst hg
        have hwr := w1 ws[r] (List.getElem_mem hr)
        refine ⟨?_, ?_, ?_, by rw [hf.1]; exact notin⟩ <;> (rcases hf.2 with z | z <;> omega)
    · rw [List.map_append, List.nodup_append]
      refine ⟨w4, by simp, fun y hy z hz => ?_⟩
      simp at hz
      subst hz
      obtain ⟨g, hg, rfl⟩ := List.mem_map.mp hy
      rw [hf.1]
      intro e
      exact (w3 g hg).2.2.2 (by rw [e]; exact List.getElem_mem hr)
  · rw [List.length_eraseIdx_of_lt hr]; omega
theorem sc_loop {n p q : Nat} {c : Int} {a b : Option D} (np : n ≠ p) (nq : n ≠ q) (pq : p ≠ q) : ∀ (ds : List D) (S : Store) (ws fs : List Int) (x5 x6 : Option D), Dk S n → S[p]? = some (.lst (ws.map .int)) → S[q]? = some (.lst (fs.map .int)) → Wf c ws fs → ds.length ≤ ws.length → ws.length ≤ 50 → fs.length + ds.length ≤ 50 →
    ∃ x5' x6' S' ws' fs', forD (fun _ => True) (gtN 5) scBody ds [some (.ref n), a, b, some (.ref p), some (.ref q), x5, x6] S = .nx [some (.ref n), a, b, some (.ref p), some (.ref q), x5', x6'] S' ∧ Dk S' n ∧ S'[q]? = some (.lst (fs'.map .int)) ∧ Wf c ws' fs' ∧ fs'.length = fs.length + ds.length
  | [], S, ws, fs, x5, x6, h, hp, hq, w, _, _, _ => ⟨x5, x6, S, ws, fs, by simp only [forD, if_true], h, hq, w, by simp⟩
  | d :: ds, S, ws, fs, x5, x6, h, hp, hq, w, hl, hz, hz2 => by
    simp only [List.length_cons] at hl hz2
    obtain ⟨y6, S1, ws1, fs1, e1, h1, hp1, hq1, w1, l1, l2⟩ := sc_body (a := a) (b := b) (x5 := some d) (x6 := x6) h hp hq np nq pq w (by omega) (by omega) (by omega)
    obtain ⟨z5, z6, S2, ws2, fs2, e2, h2, hq2, w2, l3⟩ := sc_loop np nq pq ds S1 ws1 fs1 (some d) y6 h1 hp1 hq1 w1 (by omega) (by omega) (by omega)
    refine ⟨z5, z6, S2, ws2, fs2, ?_, h2, hq2, w2, by simp only [List.length_cons]; omega⟩
    simp only [forD, if_true]
    simp only [e_fnRun, e_bnd, e_bndS, e_seq, e_if, e_ret, e_retN, e_set, e_expr, e_raise, e_nil, e_par, e_asg, e_sub, e_args0, e_args1, e_rt, e_some, e_var, e_k, e_call, e_un, e_op, e_test, e_boolD, e_bAnd, e_bOr, e_bNot, e_mAnd, e_mOr, e_mNot, e_mIf, e_chain, e_tup, e_lst, e_own, e_isN, e_notN, e_part, e_noPart, e_intD, e_sl, e_seqM, e_its, e_tupM, e_lstM, e_yes, e_el, e_gtN, e_gtNil, e_gtCons, e_gtTup, e_addI, e_subI, e_ltI, e_leI, e_gtI, e_geI, e_negI, e_lenT, e_lenL, e_tupT, e_tupL, e_lstT, e_slT, e_slL, e_ix0, e_ix1, e_ix2, e_il0, e_il1, e_il2, D.isNon, List.map_cons, List.map_nil, List.cons_append, List.nil_append, List.length_cons, List.length_nil, Nat.reduceAdd, Nat.reduceSub, List.replicate_succ, List.replicate_zero, List.set_cons_zero, List.set_cons_succ, List.getElem?_cons_zero, List.getElem?_cons_succ, Option.join_some, wipeE, if_true, if_false, reduceIte, Bool.false_eq_true, Bool.not_true, Bool.not_false]
    rw [e1]
    exact e2
theorem some_clause_ok {S : Store} {n : Nat} {c : Int} (h : Dk S n) (c0 : 1 ≤ c) (c1 : c ≤ 8) {mo : Int} (m0 : 0 ≤ mo) (m1 : mo ≤ 8) : ∃ ns S', m__law_some_clause [.ref n, .int c, .int mo] S = .ok (clT ns) S' ∧ Dk S' n ∧ Cl c ns ∧ (ns.length : Int) ≤ mo := by
  obtain ⟨x, y, en⟩ := id h
  have hn : n < S.length := (List.getElem?_eq_some_iff.mp en).1
  let ws : List Int := (List.range c.toNat).map fun i : Nat => 1 + (i : Int)
  let S1 : Store := S ++ [.lst (ws.map .int)]
  let S2 : Store := S1 ++ [.lst ([] : List D)]
  have hS1 : S1.length = S.length + 1 := by simp [S1]
  have hd2 : Dk S2 n := ⟨x, y, by
    show (S ++ [_] ++ [_])[n]? = _
    rw [List.getElem?_append_left (by simp; omega), List.getElem?_append_left hn]; exact en⟩
  have hp2 : S2[S.length]? = some (.lst (ws.map .int)) := by
    show (S ++ [_] ++ [_])[S.length]? = _
    rw [List.getElem?_append_left (by simp), List.getElem?_append_right (Nat.le_refl _), Nat.sub_self]; rfl
  have hq2 : S2[S1.length]? = some (.lst (([] : List Int).map .int)) := by
    show (S1 ++ [_])[S1.length]? = _
    rw [List.getElem?_append_right (Nat.le_refl _), Nat.sub_self]; rfl
  have w0 : Wf c ws [] := by
    refine ⟨fun w hw => ?_, ?_, fun f hf => (by cases hf), List.nodup_nil⟩
    · obtain ⟨i, hi, rfl⟩ := List.mem_map.mp hw
      rw [List.mem_range] at hi
      omega
    · refine List.Pairwise.map _ ?_ (List.nodup_range (n := c.toNat))
      exact fun a b hab e => hab (by omega)
  obtain ⟨r, S3, e3, r0, r1, v3⟩ := draw_ok (m := mo + 1) hd2 (by omega) (by omega)
  have hp3 : S3[S.length]? = some (.lst (ws.map .int)) := by rw [v3.2.1 _ (by omega)]; exact hp2
  have hq3 : S3[S1.length]? = some (.lst (([] : List Int).map .int)) := by rw [v3.2.1 _ (by omega)]; exact hq2
  let t : Int := if r < c then r else c
  have ht : 0 ≤ t ∧ t ≤ mo ∧ t ≤ c := by
    show 0 ≤ (if r < c then r else c) ∧ (if r < c then r else c) ≤ mo ∧ (if r < c then r else c) ≤ c
    split <;> omega
  have hwl : ws.length = c.toNat := by simp [ws]
  obtain ⟨y5, y6, S4, ws4, fs, e4, h4, hq4, w4, l4⟩ := sc_loop (n := n) (p := S.length) (q := S1.length) (c := c) (a := some (.int c)) (b := some (.int mo)) (by omega) (by omega) (by omega) (rangeD 0 t.toNat) S3 ws [] none none v3.2.2 hp3 hq3 w0 (by rw [rangeD_length]; omega) (by omega) (by rw [rangeD_length]; simp only [List.length_nil]; omega)
  rw [rangeD_length, List.length_nil, Nat.zero_add] at l4
  have hso : sortedI [.ref S1.length] S4 = .ok (.lst ((sortI fs).map .int)) S4 := by
    simp only [sortedI, seq_ref hq4, intsOf_map]
  refine ⟨sortI fs, S4, ?_, h4, ?_, by have := (sortI_perm fs).length_eq; omega⟩
  · have er : mListRg true (mRg2 (mK (.int 1)) (mOp addD (mVar 1) (mK (.int 1)))) [some (.ref n), some (.int c), some (.int mo), none, none, none, none] S = .ok (.ref S.length) S1 := by
      show bnd _ (listRg true) S = _
      have e5 : mRg2 (mK (.int 1)) (mOp addD (mVar 1) (mK (.int 1))) [some (.ref n), some (.int c), some (.int mo), none, none, none, none] S = .ok (1, c + 1) S := by
        show bnd _ _ S = _
        simp only [e_fnRun, e_bnd, e_bndS, e_seq, e_if, e_ret, e_retN, e_set, e_expr, e_raise, e_nil, e_par, e_asg, e_sub, e_args0, e_args1, e_rt, e_some, e_var, e_k, e_call, e_un, e_op, e_test, e_boolD, e_bAnd, e_bOr, e_bNot, e_mAnd, e_mOr, e_mNot, e_mIf, e_chain, e_tup, e_lst, e_own, e_isN, e_notN, e_part, e_noPart, e_intD, e_sl, e_seqM, e_its, e_tupM, e_lstM, e_yes, e_el, e_gtN, e_gtNil, e_gtCons, e_gtTup, e_addI, e_subI, e_ltI, e_leI, e_gtI, e_geI, e_negI, e_lenT, e_lenL, e_tupT, e_tupL, e_lstT, e_slT, e_slL, e_ix0, e_ix1, e_ix2, e_il0, e_il1, e_il2, D.isNon, List.map_cons, List.map_nil, List.cons_append, List.nil_append, List.length_cons, List.length_nil, Nat.reduceAdd, Nat.reduceSub, List.replicate_succ, List.replicate_zero, List.set_cons_zero, List.set_cons_succ, List.getElem?_cons_zero, List.getElem?_cons_succ, Option.join_some, wipeE, if_true, if_false, reduceIte, Bool.false_eq_true, Bool.not_true, Bool.not_false]
      rw [e_bnd, e5]
      simp only [listRg]
      rw [if_pos (L2.RgOk.of_le (by omega) (by omega) (by omega) (by omega)), if_pos trivial]
      show (R.ok (D.ref S.length) (S ++ [.lst (rangeD 1 (c + 1 - 1).toNat)]) : R D) = R.ok (D.ref S.length) (S ++ [.lst (((List.range c.toNat).map fun i : Nat => 1 + (i : Int)).map D.int)])
      rw [show c + 1 - 1 = c by omega, List.map_map]
      rfl
    have em : min2D [.int c, .int r] S3 = .ok (.int t) S3 := by
      simp only [min2D]
      rfl
    have eg : range1M [.int t] S3 = .ok (rangeD 0 t.toNat, fun _ => True) S3 := by
      simp only [range1M]
      rw [if_pos ⟨by omega, by omega⟩]
    unfold m__law_some_clause
    simp only [e_fnRun, e_bnd, e_bndS, e_seq, e_if, e_ret, e_retN, e_set, e_expr, e_raise, e_nil, e_par, e_asg, e_sub, e_args0, e_args1, e_rt, e_some, e_var, e_k, e_call, e_un, e_op, e_test, e_boolD, e_bAnd, e_bOr, e_bNot, e_mAnd, e_mOr, e_mNot, e_mIf, e_chain, e_tup, e_lst, e_own, e_isN, e_notN, e_part, e_noPart, e_intD, e_sl, e_seqM, e_its, e_tupM, e_lstM, e_yes, e_el, e_gtN, e_gtNil, e_gtCons, e_gtTup, e_addI, e_subI, e_ltI, e_leI, e_gtI, e_geI, e_negI, e_lenT, e_lenL, e_tupT, e_tupL, e_lstT, e_slT, e_slL, e_ix0, e_ix1, e_ix2, e_il0, e_il1, e_il2, D.isNon, List.map_cons, List.map_nil, List.cons_append, List.nil_append, List.length_cons, List.length_nil, Nat.reduceAdd, Nat.reduceSub, List.replicate_succ, List.replicate_zero, List.set_cons_zero, List.set_cons_succ, List.getElem?_cons_zero, List.getElem?_cons_succ, Option.join_some, wipeE, if_true, if_false, reduceIte, Bool.false_eq_true, Bool.not_true, Bool.not_false, er]
    rw [show S1 ++ [.lst []] = S2 from rfl]
    simp only [e_fnRun, e_bnd, e_bndS, e_seq, e_if, e_ret, e_retN, e_set, e_expr, e_raise, e_nil, e_par, e_asg, e_sub, e_args0, e_args1, e_rt, e_some, e_var, e_k, e_call, e_un, e_op, e_test, e_boolD, e_bAnd, e_bOr, e_bNot, e_mAnd, e_mOr, e_mNot, e_mIf, e_chain, e_tup, e_lst, e_own, e_isN, e_notN, e_part, e_noPart, e_intD, e_sl, e_seqM, e_its, e_tupM, e_lstM, e_yes, e_el, e_gtN, e_gtNil, e_gtCons, e_gtTup, e_addI, e_subI, e_ltI, e_leI, e_gtI, e_geI, e_negI, e_lenT, e_lenL, e_tupT, e_tupL, e_lstT, e_slT, e_slL, e_ix0, e_ix1, e_ix2, e_il0, e_il1, e_il2, D.isNon, List.map_cons, List.map_nil, List.cons_append, List.nil_append, List.length_cons, List.length_nil, Nat.reduceAdd, Nat.reduceSub, List.replicate_succ, List.replicate_zero, List.set_cons_zero, List.set_cons_succ, List.getElem?_cons_zero, List.getElem?_cons_succ, Option.join_some, wipeE, if_true, if_false, reduceIte, Bool.false_eq_true, Bool.not_true, Bool.not_false, e_for, e3, em, eg]
    unfold scBody at e4
    rw [e4]
    simp only [e_fnRun, e_bnd, e_bndS, e_seq, e_if, e_ret, e_retN, e_set, e_expr, e_raise, e_nil, e_par, e_asg, e_sub, e_args0, e_args1, e_rt, e_some, e_var, e_k, e_call, e_un, e_op, e_test, e_boolD, e_bAnd, e_bOr, e_bNot, e_mAnd, e_mOr, e_mNot, e_mIf, e_chain, e_tup, e_lst, e_own, e_isN, e_notN, e_part, e_noPart, e_intD, e_sl, e_seqM, e_its, e_tupM, e_lstM, e_yes, e_el, e_gtN, e_gtNil, e_gtCons, e_gtTup, e_addI, e_subI, e_ltI, e_leI, e_gtI, e_geI, e_negI, e_lenT, e_lenL, e_tupT, e_tupL, e_lstT, e_slT, e_slL, e_ix0, e_ix1, e_ix2, e_il0, e_il1, e_il2, D.isNon, List.map_cons, List.map_nil, List.cons_append, List.nil_append, List.length_cons, List.length_nil, Nat.reduceAdd, Nat.reduceSub, List.replicate_succ, List.replicate_zero, List.set_cons_zero, List.set_cons_succ, List.getElem?_cons_zero, List.getElem?_cons_succ, Option.join_some, wipeE, if_true, if_false, reduceIte, Bool.false_eq_true, Bool.not_true, Bool.not_false, hso]
  · obtain ⟨w1, w2, w3, w5⟩ := w4
    have hm : ∀ k, k ∈ sortI fs ↔ k ∈ fs := fun k => (sortI_perm fs).mem_iff
    have hnd : fs.Nodup := (List.pairwise_map.mp w5).imp fun h e => h (by rw [e])
    refine ⟨fun k hk => ?_, sortI_lt hnd, fun k hk hk2 => ?_⟩
    · have := w3 k ((hm k).mp hk)
      exact ⟨this.1, this.2.1, this.2.2.1⟩
    · have h1 := (hm k).mp hk
      have h2 := (hm (-k)).mp hk2
      have h3 := (w3 k h1).1
      obtain ⟨i, hi, ei⟩ := List.getElem_of_mem h1
      obtain ⟨j, hj, ej⟩ := List.getElem_of_mem h2
      have hp := List.pairwise_iff_getElem.mp w5
      have ea : (fs.map absZ)[i]'(by simpa using hi) = (fs.map absZ)[j]'(by simpa using hj) := by
        simp only [List.getElem_map, ei, ej]
        unfold absZ
        split <;> split <;> omega
      rcases Nat.lt_trichotomy i j with hij | hij | hij
      · exact hp i j (by simpa using hi) (by simpa using hj) hij ea
      · subst hij; omega
      · exact hp j i (by simpa using hj) (by simpa using hi) hij ea.symm
end K14

set_option Elab.async false
set_option maxRecDepth 100000
set_option linter.all false
set_option maxHeartbeats 4000000
namespace K14
open PySem hiding ret
open Mir
open Classical

theorem same_int (i : Int) (f : Nat) (S : Store) : m__law_same (f + 1) [.int i, .int i] S = .ok (.bl true) S := by
  have t : Ty (.int i) = true := rfl
  unfold m__law_same
  simp only [e_fnRun, e_bnd, e_bndS, e_seq, e_if, e_ret, e_retN, e_set, e_expr, e_raise, e_nil, e_par, e_asg, e_sub, e_args0, e_args1, e_rt, e_some, e_var, e_k, e_call, e_un, e_op, e_test, e_boolD, e_bAnd, e_bOr, e_bNot, e_mAnd, e_mOr, e_mNot, e_mIf, e_chain, e_tup, e_lst, e_own, e_isN, e_notN, e_part, e_noPart, e_intD, e_sl, e_seqM, e_its, e_tupM, e_lstM, e_yes, e_el, e_gtN, e_gtNil, e_gtCons, e_gtTup, e_addI, e_subI, e_ltI, e_leI, e_gtI, e_geI, e_negI, e_lenT, e_lenL, e_tupT, e_tupL, e_lstT, e_slT, e_slL, e_ix0, e_ix1, e_ix2, e_il0, e_il1, e_il2, D.isNon, List.map_cons, List.map_nil, List.cons_append, List.nil_append, List.length_cons, List.length_nil, Nat.reduceAdd, Nat.reduceSub, List.replicate_succ, List.replicate_zero, List.set_cons_zero, List.set_cons_succ, List.getElem?_cons_zero, List.getElem?_cons_succ, Option.join_some, wipeE, if_true, if_false, reduceIte, Bool.false_eq_true, Bool.not_true, Bool.not_false, ty_seq t, ty_bool t, ty_int t, isTup, isLst, isBl, isInt, Bool.or_self, Bool.or_false, eq_int, decide_true]
theorem same_bl (b : Bool) (f : Nat) (S : Store) : m__law_same (f + 1) [.bl b, .bl b] S = .ok (.bl true) S := by
  have t : Ty (.bl b) = true := rfl
  unfold m__law_same
  simp only [e_fnRun, e_bnd, e_bndS, e_seq, e_if, e_ret, e_retN, e_set, e_expr, e_raise, e_nil, e_par, e_asg, e_sub, e_args0, e_args1, e_rt, e_some, e_var, e_k, e_call, e_un, e_op, e_test, e_boolD, e_bAnd, e_bOr, e_bNot, e_mAnd, e_mOr, e_mNot, e_mIf, e_chain, e_tup, e_lst, e_own, e_isN, e_notN, e_part, e_noPart, e_intD, e_sl, e_seqM, e_its, e_tupM, e_lstM, e_yes, e_el, e_gtN, e_gtNil, e_gtCons, e_gtTup, e_addI, e_subI, e_ltI, e_leI, e_gtI, e_geI, e_negI, e_lenT, e_lenL, e_tupT, e_tupL, e_lstT, e_slT, e_slL, e_ix0, e_ix1, e_ix2, e_il0, e_il1, e_il2, D.isNon, List.map_cons, List.map_nil, List.cons_append, List.nil_append, List.length_cons, List.length_nil, Nat.reduceAdd, Nat.reduceSub, List.replicate_succ, List.replicate_zero, List.set_cons_zero, List.set_cons_succ, List.getElem?_cons_zero, List.getElem?_cons_succ, Option.join_some, wipeE, if_true, if_false, reduceIte, Bool.false_eq_true, Bool.not_true, Bool.not_false, ty_seq t, ty_bool t, ty_int t, isTup, isLst, isBl, isInt, Bool.or_self, Bool.or_false, eq_bl, beq_self_eq_true]
theorem same_str (x : PySem.Str) (hx : PyData.canLay0 (.str x) = true) (f : Nat) (S : Store) : m__law_same (f + 1) [.str x, .str x] S = .ok (.bl true) S := by
  have t : Ty (.str x) = true := rfl
  unfold m__law_same
  simp only [e_fnRun, e_bnd, e_bndS, e_seq, e_if, e_ret, e_retN, e_set, e_expr, e_raise, e_nil, e_par, e_asg, e_sub, e_args0, e_args1, e_rt, e_some, e_var, e_k, e_call, e_un, e_op, e_test, e_boolD, e_bAnd, e_bOr, e_bNot, e_mAnd, e_mOr, e_mNot, e_mIf, e_chain, e_tup, e_lst, e_own, e_isN, e_notN, e_part, e_noPart, e_intD, e_sl, e_seqM, e_its, e_tupM, e_lstM, e_yes, e_el, e_gtN, e_gtNil, e_gtCons, e_gtTup, e_addI, e_subI, e_ltI, e_leI, e_gtI, e_geI, e_negI, e_lenT, e_lenL, e_tupT, e_tupL, e_lstT, e_slT, e_slL, e_ix0, e_ix1, e_ix2, e_il0, e_il1, e_il2, D.isNon, List.map_cons, List.map_nil, List.cons_append, List.nil_append, List.length_cons, List.length_nil, Nat.reduceAdd, Nat.reduceSub, List.replicate_succ, List.replicate_zero, List.set_cons_zero, List.set_cons_succ, List.getElem?_cons_zero, List.getElem?_cons_succ, Option.join_some, wipeE, if_true, if_false, reduceIte, Bool.false_eq_true, Bool.not_true, Bool.not_false, ty_seq t, ty_bool t, ty_int t, ty_str t, isTup, isLst, isBl, isInt, isStr, Bool.or_self, Bool.or_false, eq_str _ _ hx hx, beq_self_eq_true]
theorem all_true (xs : List Nat) (S : Store) : allD [.lst (xs.map fun _ => .bl true)] S = .ok (.bl true) S := by
  rw [all_map (fun _ : Nat => true)]
  congr 2
  rw [List.all_eq_true]
  exact fun _ _ => rfl
theorem same_tup {xs : List D} {f : Nat} {S : Store} (hz : xs.length ≤ 1000) (h : ∀ x ∈ xs, m__law_same f [x, x] S = .ok (.bl true) S) : m__law_same (f + 1) [.tup xs, .tup xs] S = .ok (.bl true) S := by
  have t : Ty (.tup xs) = true := rfl
  have h1 : mLc [2] (mIts range1M [(mCall lenD [(mVar 1)])]) (gtN 2) bYes (mCall (m__law_same f) [(mOp ixD (mVar 0) (mVar 2)), (mOp ixD (mVar 1) (mVar 2))]) resF [some (.tup xs), some (.tup xs), none] S = .ok (.lst ((List.range xs.length).map fun _ => .bl true)) S :=
    mLc_range (g := fun _ => True) (by
      simp only [e_fnRun, e_bnd, e_bndS, e_seq, e_if, e_ret, e_retN, e_set, e_expr, e_raise, e_nil, e_par, e_asg, e_sub, e_args0, e_args1, e_rt, e_some, e_var, e_k, e_call, e_un, e_op, e_test, e_boolD, e_bAnd, e_bOr, e_bNot, e_mAnd, e_mOr, e_mNot, e_mIf, e_chain, e_tup, e_lst, e_own, e_isN, e_notN, e_part, e_noPart, e_intD, e_sl, e_seqM, e_its, e_tupM, e_lstM, e_yes, e_el, e_gtN, e_gtNil, e_gtCons, e_gtTup, e_addI, e_subI, e_ltI, e_leI, e_gtI, e_geI, e_negI, e_lenT, e_lenL, e_tupT, e_tupL, e_lstT, e_slT, e_slL, e_ix0, e_ix1, e_ix2, e_il0, e_il1, e_il2, D.isNon, List.map_cons, List.map_nil, List.cons_append, List.nil_append, List.length_cons, List.length_nil, Nat.reduceAdd, Nat.reduceSub, List.replicate_succ, List.replicate_zero, List.set_cons_zero, List.set_cons_succ, List.getElem?_cons_zero, List.getElem?_cons_succ, Option.join_some, wipeE, if_true, if_false, reduceIte, Bool.false_eq_true, Bool.not_true, Bool.not_false]
      simp only [range1M]
      rw [if_pos ⟨by omega, by omega⟩]
      rfl) trivial _ fun k hk => by
        simp only [e_fnRun, e_bnd, e_bndS, e_seq, e_if, e_ret, e_retN, e_set, e_expr, e_raise, e_nil, e_par, e_asg, e_sub, e_args0, e_args1, e_rt, e_some, e_var, e_k, e_call, e_un, e_op, e_test, e_boolD, e_bAnd, e_bOr, e_bNot, e_mAnd, e_mOr, e_mNot, e_mIf, e_chain, e_tup, e_lst, e_own, e_isN, e_notN, e_part, e_noPart, e_intD, e_sl, e_seqM, e_its, e_tupM, e_lstM, e_yes, e_el, e_gtN, e_gtNil, e_gtCons, e_gtTup, e_addI, e_subI, e_ltI, e_leI, e_gtI, e_geI, e_negI, e_lenT, e_lenL, e_tupT, e_tupL, e_lstT, e_slT, e_slL, e_ix0, e_ix1, e_ix2, e_il0, e_il1, e_il2, D.isNon, List.map_cons, List.map_nil, List.cons_append, List.nil_append, List.length_cons, List.length_nil, Nat.reduceAdd, Nat.reduceSub, List.replicate_succ, List.replicate_zero, List.set_cons_zero, List.set_cons_succ, List.getElem?_cons_zero, List.getElem?_cons_succ, Option.join_some, wipeE, if_true, if_false, reduceIte, Bool.false_eq_true, Bool.not_true, Bool.not_false, e_ixT (S := S) (ds := xs) (k := k) (d := xs[k]) (by simp [hk]), h _ (List.getElem_mem hk)]
  unfold m__law_same
  simp only [e_fnRun, e_bnd, e_bndS, e_seq, e_if, e_ret, e_retN, e_set, e_expr, e_raise, e_nil, e_par, e_asg, e_sub, e_args0, e_args1, e_rt, e_some, e_var, e_k, e_call, e_un, e_op, e_test, e_boolD, e_bAnd, e_bOr, e_bNot, e_mAnd, e_mOr, e_mNot, e_mIf, e_chain, e_tup, e_lst, e_own, e_isN, e_notN, e_part, e_noPart, e_intD, e_sl, e_seqM, e_its, e_tupM, e_lstM, e_yes, e_el, e_gtN, e_gtNil, e_gtCons, e_gtTup, e_addI, e_subI, e_ltI, e_leI, e_gtI, e_geI, e_negI, e_lenT, e_lenL, e_tupT, e_tupL, e_lstT, e_slT, e_slL, e_ix0, e_ix1, e_ix2, e_il0, e_il1, e_il2, D.isNon, List.map_cons, List.map_nil, List.cons_append, List.nil_append, List.length_cons, List.length_nil, Nat.reduceAdd, Nat.reduceSub, List.replicate_succ, List.replicate_zero, List.set_cons_zero, List.set_cons_succ, List.getElem?_cons_zero, List.getElem?_cons_succ, Option.join_some, wipeE, if_true, if_false, reduceIte, Bool.false_eq_true, Bool.not_true, Bool.not_false, ty_seq t, ty_tup t, ty_lst t, isTup, isLst, Bool.or_false, ne_bl, beq_self_eq_true, eq_int, decide_true, h1, all_true]
theorem same_lst {xs : List D} {f : Nat} {S : Store} (hz : xs.length ≤ 1000) (h : ∀ x ∈ xs, m__law_same f [x, x] S = .ok (.bl true) S) : m__law_same (f + 1) [.lst xs, .lst xs] S = .ok (.bl true) S := by
  have t : Ty (.lst xs) = true := rfl
  have h1 : mLc [2] (mIts range1M [(mCall lenD [(mVar 1)])]) (gtN 2) bYes (mCall (m__law_same f) [(mOp ixD (mVar 0) (mVar 2)), (mOp ixD (mVar 1) (mVar 2))]) resF [some (.lst xs), some (.lst xs), none] S = .ok (.lst ((List.range xs.length).map fun _ => .bl true)) S :=
    mLc_range (g := fun _ => True) (by
      simp only [e_fnRun, e_bnd, e_bndS, e_seq, e_if, e_ret, e_retN, e_set, e_expr, e_raise, e_nil, e_par, e_asg, e_sub, e_args0, e_args1, e_rt, e_some, e_var, e_k, e_call, e_un, e_op, e_test, e_boolD, e_bAnd, e_bOr, e_bNot, e_mAnd, e_mOr, e_mNot, e_mIf, e_chain, e_tup, e_lst, e_own, e_isN, e_notN, e_part, e_noPart, e_intD, e_sl, e_seqM, e_its, e_tupM, e_lstM, e_yes, e_el, e_gtN, e_gtNil, e_gtCons, e_gtTup, e_addI, e_subI, e_ltI, e_leI, e_gtI, e_geI, e_negI, e_lenT, e_lenL, e_tupT, e_tupL, e_lstT, e_slT, e_slL, e_ix0, e_ix1, e_ix2, e_il0, e_il1, e_il2, D.isNon, List.map_cons, List.map_nil, List.cons_append, List.nil_append, List.length_cons, List.length_nil, Nat.reduceAdd, Nat.reduceSub, List.replicate_succ, List.replicate_zero, List.set_cons_zero, List.set_cons_succ, List.getElem?_cons_zero, List.getElem?_cons_succ, Option.join_some, wipeE, if_true, if_false, reduceIte, Bool.false_eq_true, Bool.not_true, Bool.not_false]
      simp only [range1M]
      rw [if_pos ⟨by omega, by omega⟩]
      rfl) trivial _ fun k hk => by
        simp only [e_fnRun, e_bnd, e_bndS, e_seq, e_if, e_ret, e_retN, e_set, e_expr, e_raise, e_nil, e_par, e_asg, e_sub, e_args0, e_args1, e_rt, e_some, e_var, e_k, e_call, e_un, e_op, e_test, e_boolD, e_bAnd, e_bOr, e_bNot, e_mAnd, e_mOr, e_mNot, e_mIf, e_chain, e_tup, e_lst, e_own, e_isN, e_notN, e_part, e_noPart, e_intD, e_sl, e_seqM, e_its, e_tupM, e_lstM, e_yes, e_el, e_gtN, e_gtNil, e_gtCons, e_gtTup, e_addI, e_subI, e_ltI, e_leI, e_gtI, e_geI, e_negI, e_lenT, e_lenL, e_tupT, e_tupL, e_lstT, e_slT, e_slL, e_ix0, e_ix1, e_ix2, e_il0, e_il1, e_il2, D.isNon, List.map_cons, List.map_nil, List.cons_append, List.nil_append, List.length_cons, List.length_nil, Nat.reduceAdd, Nat.reduceSub, List.replicate_succ, List.replicate_zero, List.set_cons_zero, List.set_cons_succ, List.getElem?_cons_zero, List.getElem?_cons_succ, Option.join_some, wipeE, if_true, if_false, reduceIte, Bool.false_eq_true, Bool.not_true, Bool.not_false, e_ixL (S := S) (ds := xs) (k := k) (d := xs[k]) (by simp [hk]), h _ (List.getElem_mem hk)]
  unfold m__law_same
  simp only [e_fnRun, e_bnd, e_bndS, e_seq, e_if, e_ret, e_retN, e_set, e_expr, e_raise, e_nil, e_par, e_asg, e_sub, e_args0, e_args1, e_rt, e_some, e_var, e_k, e_call, e_un, e_op, e_test, e_boolD, e_bAnd, e_bOr, e_bNot, e_mAnd, e_mOr, e_mNot, e_mIf, e_chain, e_tup, e_lst, e_own, e_isN, e_notN, e_part, e_noPart, e_intD, e_sl, e_seqM, e_its, e_tupM, e_lstM, e_yes, e_el, e_gtN, e_gtNil, e_gtCons, e_gtTup, e_addI, e_subI, e_ltI, e_leI, e_gtI, e_geI, e_negI, e_lenT, e_lenL, e_tupT, e_tupL, e_lstT, e_slT, e_slL, e_ix0, e_ix1, e_ix2, e_il0, e_il1, e_il2, D.isNon, List.map_cons, List.map_nil, List.cons_append, List.nil_append, List.length_cons, List.length_nil, Nat.reduceAdd, Nat.reduceSub, List.replicate_succ, List.replicate_zero, List.set_cons_zero, List.set_cons_succ, List.getElem?_cons_zero, List.getElem?_cons_succ, Option.join_some, wipeE, if_true, if_false, reduceIte, Bool.false_eq_true, Bool.not_true, Bool.not_false, ty_seq t, ty_tup t, ty_lst t, isTup, isLst, Bool.or_true, ne_bl, beq_self_eq_true, eq_int, decide_true, h1, all_true]
theorem same_bool (b : Bool) (S : Store) : m__law_same 8 [.lst [.bl b], .lst [.bl b]] S = .ok (.bl true) S :=
  same_lst (by simp) fun x hx => by simp at hx; subst hx; exact same_bl b 6 S
theorem same_cl {r : List Int} (hz : r.length ≤ 1000) (S : Store) : m__law_same 8 [.lst [clT r], .lst [clT r]] S = .ok (.bl true) S :=
  same_lst (by simp) fun x hx => by
    simp at hx
    subst hx
    refine same_tup (by rw [List.length_map]; exact hz) fun y hy => ?_
    obtain ⟨k, _, rfl⟩ := List.mem_map.mp hy
    exact same_int k 5 S

abbrev tT (bs : List Bool) : D := .tup (bs.map .bl)
def lit (bs : List Bool) (k : Int) : Bool := bs.getD (absZ k - 1).toNat false == decide (0 < k)
def hold (bs : List Bool) (css : List (List Int)) : Bool := css.all fun ns => ns.any (lit bs)
theorem hold_ok {bs : List Bool} {css : List (List Int)} (h : ∀ ns ∈ css, ∀ k ∈ ns, 1 ≤ absZ k ∧ absZ k ≤ bs.length) (S : Store) : m__law_hold_all [tT bs, csT css] S = .ok (.bl (hold bs css)) S := by
  have h1 : mLc [2] (mSeq (mVar 1)) (gtN 2) bYes (mCall anyD [(mLc [3] (mSeq (mVar 2)) (gtN 3) bYes (mOp eqD (mOp ixD (mVar 0) (mOp subD (mCall absD [(mVar 3)]) (mK (.int 1)))) (mOp gtD (mVar 3) (mK (.int 0)))) resF)]) resF [some (tT bs), some (csT css), none, none] S
      = .ok (.lst (css.map fun ns => .bl (ns.any (lit bs)))) S := by
    have := mLcT_map (own := [2]) (f := gtN 2) (mt := bYes) (me := mCall anyD [(mLc [3] (mSeq (mVar 2)) (gtN 3) bYes (mOp eqD (mOp ixD (mVar 0) (mOp subD (mCall absD [(mVar 3)]) (mK (.int 1)))) (mOp gtD (mVar 3) (mK (.int 0)))) resF)]) (m0 := mVar 1) (env := [some (tT bs), some (csT css), none, none]) (S := S) (ds := css.map clT) (by simp only [e_fnRun, e_bnd, e_bndS, e_seq, e_if, e_ret, e_retN, e_set, e_expr, e_raise, e_nil, e_par, e_asg, e_sub, e_args0, e_args1, e_rt, e_some, e_var, e_k, e_call, e_un, e_op, e_test, e_boolD, e_bAnd, e_bOr, e_bNot, e_mAnd, e_mOr, e_mNot, e_mIf, e_chain, e_tup, e_lst, e_own, e_isN, e_notN, e_part, e_noPart, e_intD, e_sl, e_seqM, e_its, e_tupM, e_lstM, e_yes, e_el, e_gtN, e_gtNil, e_gtCons, e_gtTup, e_addI, e_subI, e_ltI, e_leI, e_gtI, e_geI, e_negI, e_lenT, e_lenL, e_tupT, e_tupL, e_lstT, e_slT, e_slL, e_ix0, e_ix1, e_ix2, e_il0, e_il1, e_il2, D.isNon, List.map_cons, List.map_nil, List.cons_append, List.nil_append, List.length_cons, List.length_nil, Nat.reduceAdd, Nat.reduceSub, List.replicate_succ, List.replicate_zero, List.set_cons_zero, List.set_cons_succ, List.getElem?_cons_zero, List.getElem?_cons_succ, Option.join_some, wipeE, if_true, if_false, reduceIte, Bool.false_eq_true, Bool.not_true, Bool.not_false])
      (fun d => match d with | .tup xs => (match intsOf xs with | some ns => .bl (ns.any (lit bs)) | none => .non) | _ => .non) (fun d hd => by
        obtain ⟨ns, hn, rfl⟩ := List.mem_map.mp hd
        have h2 : mLc [3] (mSeq (mVar 2)) (gtN 3) bYes (mOp eqD (mOp ixD (mVar 0) (mOp subD (mCall absD [(mVar 3)]) (mK (.int 1)))) (mOp gtD (mVar 3) (mK (.int 0)))) resF [some (tT bs), some (csT css), some (clT ns), none] S = .ok (.lst (ns.map fun k => .bl (lit bs k))) S :=
          mLcT_ints (by simp only [e_fnRun, e_bnd, e_bndS, e_seq, e_if, e_ret, e_retN, e_set, e_expr, e_raise, e_nil, e_par, e_asg, e_sub, e_args0, e_args1, e_rt, e_some, e_var, e_k, e_call, e_un, e_op, e_test, e_boolD, e_bAnd, e_bOr, e_bNot, e_mAnd, e_mOr, e_mNot, e_mIf, e_chain, e_tup, e_lst, e_own, e_isN, e_notN, e_part, e_noPart, e_intD, e_sl, e_seqM, e_its, e_tupM, e_lstM, e_yes, e_el, e_gtN, e_gtNil, e_gtCons, e_gtTup, e_addI, e_subI, e_ltI, e_leI, e_gtI, e_geI, e_negI, e_lenT, e_lenL, e_tupT, e_tupL, e_lstT, e_slT, e_slL, e_ix0, e_ix1, e_ix2, e_il0, e_il1, e_il2, D.isNon, List.map_cons, List.map_nil, List.cons_append, List.nil_append, List.length_cons, List.length_nil, Nat.reduceAdd, Nat.reduceSub, List.replicate_succ, List.replicate_zero, List.set_cons_zero, List.set_cons_succ, List.getElem?_cons_zero, List.getElem?_cons_succ, Option.join_some, wipeE, if_true, if_false, reduceIte, Bool.false_eq_true, Bool.not_true, Bool.not_false]) _ fun k hk => by
            obtain ⟨a1, a2⟩ := h ns hn k hk
            have ea : absD [.int k] S = .ok (.int (absZ k)) S := rfl
            have ei : absZ k - 1 = (((absZ k - 1).toNat : Nat) : Int) := by omega
            have hk2 : (absZ k - 1).toNat < bs.length := by omega
            have e0 : ixD (tT bs) (.int (((absZ k - 1).toNat : Nat) : Int)) S = .ok (.bl (bs.getD (absZ k - 1).toNat false)) S :=
              e_ixT (by rw [List.getElem?_map, List.getElem?_eq_getElem hk2, List.getD_eq_getElem?_getD, List.getElem?_eq_getElem hk2]; rfl)
            have e1 : ixD (tT bs) (.int (absZ k - 1)) S = .ok (.bl (bs.getD (absZ k - 1).toNat false)) S := by rw [ei]; rw [← ei]; rw [← ei] at e0; exact e0
            simp only [e_fnRun, e_bnd, e_bndS, e_seq, e_if, e_ret, e_retN, e_set, e_expr, e_raise, e_nil, e_par, e_asg, e_sub, e_args0, e_args1, e_rt, e_some, e_var, e_k, e_call, e_un, e_op, e_test, e_boolD, e_bAnd, e_bOr, e_bNot, e_mAnd, e_mOr, e_mNot, e_mIf, e_chain, e_tup, e_lst, e_own, e_isN, e_notN, e_part, e_noPart, e_intD, e_sl, e_seqM, e_its, e_tupM, e_lstM, e_yes, e_el, e_gtN, e_gtNil, e_gtCons, e_gtTup, e_addI, e_subI, e_ltI, e_leI, e_gtI, e_geI, e_negI, e_lenT, e_lenL, e_tupT, e_tupL, e_lstT, e_slT, e_slL, e_ix0, e_ix1, e_ix2, e_il0, e_il1, e_il2, D.isNon, List.map_cons, List.map_nil, List.cons_append, List.nil_append, List.length_cons, List.length_nil, Nat.reduceAdd, Nat.reduceSub, List.replicate_succ, List.replicate_zero, List.set_cons_zero, List.set_cons_succ, List.getElem?_cons_zero, List.getElem?_cons_succ, Option.join_some, wipeE, if_true, if_false, reduceIte, Bool.false_eq_true, Bool.not_true, Bool.not_false, ea, e1, eq_bl]
            rfl
        simp only [e_fnRun, e_bnd, e_bndS, e_seq, e_if, e_ret, e_retN, e_set, e_expr, e_raise, e_nil, e_par, e_asg, e_sub, e_args0, e_args1, e_rt, e_some, e_var, e_k, e_call, e_un, e_op, e_test, e_boolD, e_bAnd, e_bOr, e_bNot, e_mAnd, e_mOr, e_mNot, e_mIf, e_chain, e_tup, e_lst, e_own, e_isN, e_notN, e_part, e_noPart, e_intD, e_sl, e_seqM, e_its, e_tupM, e_lstM, e_yes, e_el, e_gtN, e_gtNil, e_gtCons, e_gtTup, e_addI, e_subI, e_ltI, e_leI, e_gtI, e_geI, e_negI, e_lenT, e_lenL, e_tupT, e_tupL, e_lstT, e_slT, e_slL, e_ix0, e_ix1, e_ix2, e_il0, e_il1, e_il2, D.isNon, List.map_cons, List.map_nil, List.cons_append, List.nil_append, List.length_cons, List.length_nil, Nat.reduceAdd, Nat.reduceSub, List.replicate_succ, List.replicate_zero, List.set_cons_zero, List.set_cons_succ, List.getElem?_cons_zero, List.getElem?_cons_succ, Option.join_some, wipeE, if_true, if_false, reduceIte, Bool.false_eq_true, Bool.not_true, Bool.not_false, h2, any_map, intsOf_map])
    rw [this, List.map_map]
    congr 2
    refine List.map_congr_left fun ns _ => ?_
    simp only [Function.comp, intsOf_map]
  unfold m__law_hold_all
  simp only [e_fnRun, e_bnd, e_bndS, e_seq, e_if, e_ret, e_retN, e_set, e_expr, e_raise, e_nil, e_par, e_asg, e_sub, e_args0, e_args1, e_rt, e_some, e_var, e_k, e_call, e_un, e_op, e_test, e_boolD, e_bAnd, e_bOr, e_bNot, e_mAnd, e_mOr, e_mNot, e_mIf, e_chain, e_tup, e_lst, e_own, e_isN, e_notN, e_part, e_noPart, e_intD, e_sl, e_seqM, e_its, e_tupM, e_lstM, e_yes, e_el, e_gtN, e_gtNil, e_gtCons, e_gtTup, e_addI, e_subI, e_ltI, e_leI, e_gtI, e_geI, e_negI, e_lenT, e_lenL, e_tupT, e_tupL, e_lstT, e_slT, e_slL, e_ix0, e_ix1, e_ix2, e_il0, e_il1, e_il2, D.isNon, List.map_cons, List.map_nil, List.cons_append, List.nil_append, List.length_cons, List.length_nil, Nat.reduceAdd, Nat.reduceSub, List.replicate_succ, List.replicate_zero, List.set_cons_zero, List.set_cons_succ, List.getElem?_cons_zero, List.getElem?_cons_succ, Option.join_some, wipeE, if_true, if_false, reduceIte, Bool.false_eq_true, Bool.not_true, Bool.not_false, h1, all_map]
  rfl
theorem bools_py (bs : List Bool) : pyDs (bs.map .bl) = some (bs.map PyData.bool) := by
  induction bs with
  | nil => rfl
  | cons b bs ih => simp only [List.map_cons, pyDs, pyD, ih]
theorem tT_py (fs : List (List Bool)) : pyDs (fs.map tT) = some (fs.map fun bs => PyData.tuple (bs.map .bool)) := by
  induction fs with
  | nil => rfl
  | cons f fs ih => simp only [List.map_cons, pyDs, pyD, ih, bools_py, Option.map_some]
theorem bools_alike : ∀ as bs : List Bool, PySem.W.alikeAll (as.map PyData.bool) (bs.map PyData.bool) = true
  | [], _ => by simp [PySem.W.alikeAll]
  | _ :: _, [] => by simp [PySem.W.alikeAll]
  | a :: as, b :: bs => by simp only [List.map_cons, PySem.W.alikeAll, PySem.W.alike, bools_alike as bs, Bool.and_self]
theorem bools_dep (bs : List Bool) : PyData.depthAll (bs.map PyData.bool) = 0 := by
  induction bs with
  | nil => rfl
  | cons b bs ih => simp only [List.map_cons, PyData.depthAll, PyData.depth, ih, Nat.max_self]
theorem truths_loop {c : Nat} : ∀ (ds : List D) (fs : List (List Bool)) (L : Nat) (x2 : Option D) (S : Store), (∀ bs ∈ fs, bs.length = L) → fs.length * 2 ^ ds.length ≤ 256 → L + ds.length ≤ 8 →
    ∃ (fs' : List (List Bool)) (y2 : Option D), forD (fun _ => True) (gtN 2) (sSet 1 (mOp addD (mLc [3] (mSeq (mVar 1)) (gtN 3) bYes (mOp addD (mVar 3) (mTup [(mK (.bl false))])) resF) (mLc [3] (mSeq (mVar 1)) (gtN 3) bYes (mOp addD (mVar 3) (mTup [(mK (.bl true))])) resF))) ds
      [some (.int c), some (.lst (fs.map tT)), x2, none] S = .nx [some (.int c), some (.lst (fs'.map tT)), y2, none] S ∧ (∀ bs ∈ fs', bs.length = L + ds.length) ∧ ∀ bs : List Bool, bs.length = L + ds.length → bs.take L ∈ fs → bs ∈ fs'
  | [], fs, L, x2, S, hL, _, _ => ⟨fs, x2, by simp only [forD, if_true], by simpa using hL, fun bs hb h => by rw [List.take_of_length_le (by simpa using Nat.le_of_eq hb)] at h; exact h⟩
  | d :: ds, fs, L, x2, S, hL, hz, hl => by
    have hs := sl_small
    simp only [List.length_cons] at hz hl
    have hfl : fs.length ≤ 128 := by
      have : 1 ≤ 2 ^ ds.length := Nat.one_le_two_pow
      have h2 : fs.length * 2 ≤ fs.length * 2 ^ (ds.length + 1) := Nat.mul_le_mul_left _ (by rw [Nat.pow_succ]; omega)
      omega
    have half : ∀ b : Bool, mLc [3] (mSeq (mVar 1)) (gtN 3) bYes (mOp addD (mVar 3) (mTup [(mK (.bl b))])) resF [some (.int c), some (.lst (fs.map tT)), some d, none] S = .ok (.lst ((fs.map fun bs => bs ++ [b]).map tT)) S := fun b => by
      have := mLcL_map (own := [3]) (f := gtN 3) (mt := bYes) (me := mOp addD (mVar 3) (mTup [(mK (.bl b))])) (m0 := mVar 1) (env := [some (.int c), some (.lst (fs.map tT)), some d, none]) (S := S) (ds := fs.map tT) (by simp only [e_fnRun, e_bnd, e_bndS, e_seq, e_if, e_ret, e_retN, e_set, e_expr, e_raise, e_nil, e_par, e_asg, e_sub, e_args0, e_args1, e_rt, e_some, e_var, e_k, e_call, e_un, e_op, e_test, e_boolD, e_bAnd, e_bOr, e_bNot, e_mAnd, e_mOr, e_mNot, e_mIf, e_chain, e_tup, e_lst, e_own, e_isN, e_notN, e_part, e_noPart, e_intD, e_sl, e_seqM, e_its, e_tupM, e_lstM, e_yes, e_el, e_gtN, e_gtNil, e_gtCons, e_gtTup, e_addI, e_subI, e_ltI, e_leI, e_gtI, e_geI, e_negI, e_lenT, e_lenL, e_tupT, e_tupL, e_lstT, e_slT, e_slL, e_ix0, e_ix1, e_ix2, e_il0, e_il1, e_il2, D.isNon, List.map_cons, List.map_nil, List.cons_append, List.nil_append, List.length_cons, List.length_nil, Nat.reduceAdd, Nat.reduceSub, List.replicate_succ, List.replicate_zero, List.set_cons_zero, List.set_cons_succ, List.getElem?_cons_zero, List.getElem?_cons_succ, Option.join_some, wipeE, if_true, if_false, reduceIte, Bool.false_eq_true, Bool.not_true, Bool.not_false])
        (fun e => match e with | .tup xs => .tup (xs ++ [.bl b]) | _ => .non) (fun e he => by
          obtain ⟨bs, hb, rfl⟩ := List.mem_map.mp he
          have := hL bs hb
          simp only [e_fnRun, e_bnd, e_bndS, e_seq, e_if, e_ret, e_retN, e_set, e_expr, e_raise, e_nil, e_par, e_asg, e_sub, e_args0, e_args1, e_rt, e_some, e_var, e_k, e_call, e_un, e_op, e_test, e_boolD, e_bAnd, e_bOr, e_bNot, e_mAnd, e_mOr, e_mNot, e_mIf, e_chain, e_tup, e_lst, e_own, e_isN, e_notN, e_part, e_noPart, e_intD, e_sl, e_seqM, e_its, e_tupM, e_lstM, e_yes, e_el, e_gtN, e_gtNil, e_gtCons, e_gtTup, e_addI, e_subI, e_ltI, e_leI, e_gtI, e_geI, e_negI, e_lenT, e_lenL, e_tupT, e_tupL, e_lstT, e_slT, e_slL, e_ix0, e_ix1, e_ix2, e_il0, e_il1, e_il2, D.isNon, List.map_cons, List.map_nil, List.cons_append, List.nil_append, List.length_cons, List.length_nil, Nat.reduceAdd, Nat.reduceSub, List.replicate_succ, List.replicate_zero, List.set_cons_zero, List.set_cons_succ, List.getElem?_cons_zero, List.getElem?_cons_succ, Option.join_some, wipeE, if_true, if_false, reduceIte, Bool.false_eq_true, Bool.not_true, Bool.not_false]
          rw [e_addT (by rw [List.length_map]; simp only [List.length_cons, List.length_nil]; omega)])
      rw [this, List.map_map, List.map_map]
      congr 2
      refine List.map_congr_left fun bs _ => ?_
      simp
    obtain ⟨fs', y2, e2, h2, h3⟩ := truths_loop (c := c) ds ((fs.map fun bs => bs ++ [false]) ++ fs.map fun bs => bs ++ [true]) (L + 1) (some d) S (fun bs hb => by
      rcases List.mem_append.mp hb with z | z
      · obtain ⟨a, ha, rfl⟩ := List.mem_map.mp z
        simp [hL a ha]
      · obtain ⟨a, ha, rfl⟩ := List.mem_map.mp z
        simp [hL a ha]) (by
      rw [List.length_append, List.length_map, List.length_map]
      rw [Nat.pow_succ] at hz
      have : (fs.length + fs.length) * 2 ^ ds.length = fs.length * (2 ^ ds.length * 2) := by
        rw [← Nat.two_mul, Nat.mul_comm 2 fs.length, Nat.mul_assoc, Nat.mul_comm 2]
      omega) (by omega)
    refine ⟨fs', y2, ?_, fun bs hb => by rw [h2 bs hb, List.length_cons]; omega, fun bs hb ht => h3 bs (by rw [hb, List.length_cons]; omega) ?_⟩
    rotate_left
    · rw [List.length_cons] at hb
      have hL2 : L < bs.length := by omega
      rw [List.take_succ, List.getElem?_eq_getElem hL2]
      cases hq : bs[L] with
      | false => exact List.mem_append_left _ (List.mem_map.mpr ⟨_, ht, rfl⟩)
      | true => exact List.mem_append_right _ (List.mem_map.mpr ⟨_, ht, rfl⟩)
    simp only [forD, if_true]
    simp only [e_fnRun, e_bnd, e_bndS, e_seq, e_if, e_ret, e_retN, e_set, e_expr, e_raise, e_nil, e_par, e_asg, e_sub, e_args0, e_args1, e_rt, e_some, e_var, e_k, e_call, e_un, e_op, e_test, e_boolD, e_bAnd, e_bOr, e_bNot, e_mAnd, e_mOr, e_mNot, e_mIf, e_chain, e_tup, e_lst, e_own, e_isN, e_notN, e_part, e_noPart, e_intD, e_sl, e_seqM, e_its, e_tupM, e_lstM, e_yes, e_el, e_gtN, e_gtNil, e_gtCons, e_gtTup, e_addI, e_subI, e_ltI, e_leI, e_gtI, e_geI, e_negI, e_lenT, e_lenL, e_tupT, e_tupL, e_lstT, e_slT, e_slL, e_ix0, e_ix1, e_ix2, e_il0, e_il1, e_il2, D.isNon, List.map_cons, List.map_nil, List.cons_append, List.nil_append, List.length_cons, List.length_nil, Nat.reduceAdd, Nat.reduceSub, List.replicate_succ, List.replicate_zero, List.set_cons_zero, List.set_cons_succ, List.getElem?_cons_zero, List.getElem?_cons_succ, Option.join_some, wipeE, if_true, if_false, reduceIte, Bool.false_eq_true, Bool.not_true, Bool.not_false, half]
    rw [e_addL (by simp only [List.length_map]; omega), ← List.map_append]
    exact e2
theorem all_truths_ok {c : Int} (c0 : 1 ≤ c) (c1 : c ≤ 8) (S : Store) : ∃ ds, m__law_all_truths [.int c] S = .ok (.lst ds) S ∧ (∀ d ∈ ds, ∃ bs : List Bool, d = tT bs ∧ bs.length = c.toNat) ∧ ∀ bs : List Bool, bs.length = c.toNat → tT bs ∈ ds := by
  obtain ⟨n, rfl⟩ : ∃ n : Nat, c = n := ⟨c.toNat, by omega⟩
  have eg : range1M [.int (n : Int)] S = .ok (rangeD 0 n, fun _ => True) S := by
    simp only [range1M]
    rw [if_pos ⟨by omega, by omega⟩]
    rfl
  have hp : 2 ^ n ≤ 2 ^ 8 := Nat.pow_le_pow_right (by decide) (by omega)
  obtain ⟨fs, y2, e2, h2, h3⟩ := truths_loop (c := n) (rangeD 0 n) [[]] 0 none S (fun bs hb => by simp at hb; subst hb; rfl) (by rw [rangeD_length]; simp only [List.length_cons, List.length_nil]; omega) (by rw [rangeD_length]; omega)
  rw [rangeD_length, Nat.zero_add] at h2 h3
  have hsort : sortedG [.lst (fs.map tT)] S = .ok (.lst ((fs.map tT).mergeSort (PySem.W.dataLe false encD))) S := by
    simp only [sortedG, seqOf, tT_py]
    rw [if_pos]
    refine ⟨?_, .inl ?_, ?_⟩
    · intro d hd d' hd'
      obtain ⟨a, ha, rfl⟩ := List.mem_map.mp hd
      obtain ⟨b, hb, rfl⟩ := List.mem_map.mp hd'
      simp only [PySem.W.alike, bools_alike]
    · intro d hd
      obtain ⟨a, ha, rfl⟩ := List.mem_map.mp hd
      cases a with
      | nil => have := h2 _ ha; simp at this; omega
      | cons x r => exact ⟨_, _, rfl⟩
    · intro d hd
      obtain ⟨a, ha, rfl⟩ := List.mem_map.mp hd
      simp only [PyData.depth, bools_dep]
      omega
  refine ⟨(fs.map tT).mergeSort (PySem.W.dataLe false encD), ?_, fun d hd => ?_, fun bs hb => (List.mergeSort_perm _ _).mem_iff.mpr (List.mem_map.mpr ⟨bs, h3 bs (by omega) (by simp), rfl⟩)⟩
  · unfold m__law_all_truths
    simp only [e_fnRun, e_bnd, e_bndS, e_seq, e_if, e_ret, e_retN, e_set, e_expr, e_raise, e_nil, e_par, e_asg, e_sub, e_args0, e_args1, e_rt, e_some, e_var, e_k, e_call, e_un, e_op, e_test, e_boolD, e_bAnd, e_bOr, e_bNot, e_mAnd, e_mOr, e_mNot, e_mIf, e_chain, e_tup, e_lst, e_own, e_isN, e_notN, e_part, e_noPart, e_intD, e_sl, e_seqM, e_its, e_tupM, e_lstM, e_yes, e_el, e_gtN, e_gtNil, e_gtCons, e_gtTup, e_addI, e_subI, e_ltI, e_leI, e_gtI, e_geI, e_negI, e_lenT, e_lenL, e_tupT, e_tupL, e_lstT, e_slT, e_slL, e_ix0, e_ix1, e_ix2, e_il0, e_il1, e_il2, D.isNon, List.map_cons, List.map_nil, List.cons_append, List.nil_append, List.length_cons, List.length_nil, Nat.reduceAdd, Nat.reduceSub, List.replicate_succ, List.replicate_zero, List.set_cons_zero, List.set_cons_succ, List.getElem?_cons_zero, List.getElem?_cons_succ, Option.join_some, wipeE, if_true, if_false, reduceIte, Bool.false_eq_true, Bool.not_true, Bool.not_false, e_for, eg]
    rw [show (.lst [D.tup []] : D) = .lst ([[]].map tT) from rfl, e2]
    simp only [e_fnRun, e_bnd, e_bndS, e_seq, e_if, e_ret, e_retN, e_set, e_expr, e_raise, e_nil, e_par, e_asg, e_sub, e_args0, e_args1, e_rt, e_some, e_var, e_k, e_call, e_un, e_op, e_test, e_boolD, e_bAnd, e_bOr, e_bNot, e_mAnd, e_mOr, e_mNot, e_mIf, e_chain, e_tup, e_lst, e_own, e_isN, e_notN, e_part, e_noPart, e_intD, e_sl, e_seqM, e_its, e_tupM, e_lstM, e_yes, e_el, e_gtN, e_gtNil, e_gtCons, e_gtTup, e_addI, e_subI, e_ltI, e_leI, e_gtI, e_geI, e_negI, e_lenT, e_lenL, e_tupT, e_tupL, e_lstT, e_slT, e_slL, e_ix0, e_ix1, e_ix2, e_il0, e_il1, e_il2, D.isNon, List.map_cons, List.map_nil, List.cons_append, List.nil_append, List.length_cons, List.length_nil, Nat.reduceAdd, Nat.reduceSub, List.replicate_succ, List.replicate_zero, List.set_cons_zero, List.set_cons_succ, List.getElem?_cons_zero, List.getElem?_cons_succ, Option.join_some, wipeE, if_true, if_false, reduceIte, Bool.false_eq_true, Bool.not_true, Bool.not_false, hsort]
  · have := (List.mergeSort_perm _ _).mem_iff.mp hd
    obtain ⟨bs, hb, rfl⟩ := List.mem_map.mp this
    exact ⟨bs, rfl, by rw [h2 bs hb]; omega⟩
theorem filterMap_T (p : List Bool → Bool) : ∀ l : List (List Bool), l.filterMap (fun bs => if p bs = true then some (tT bs) else none) = (l.filter p).map tT
  | [] => rfl
  | bs :: l => by
    by_cases hh : p bs = true
    · rw [List.filterMap_cons_some (b := tT bs) (by rw [if_pos hh]), List.filter_cons_of_pos hh, List.map_cons, filterMap_T p l]
    · rw [List.filterMap_cons_none (by rw [if_neg hh]), List.filter_cons_of_neg hh, filterMap_T p l]
theorem models_ok {c : Int} {css : List (List Int)} (c0 : 1 ≤ c) (c1 : c ≤ 8) (h : ∀ ns ∈ css, ∀ k ∈ ns, 1 ≤ absZ k ∧ absZ k ≤ c) (S : Store) : ∃ bss : List (List Bool), m__law_models [.int c, csT css] S = .ok (.lst (bss.map tT)) S ∧ ∀ bs, bs ∈ bss ↔ bs.length = c.toNat ∧ hold bs css = true := by
  obtain ⟨ds, e1, h1, h0⟩ := all_truths_ok c0 c1 S
  obtain ⟨all, rfl, hall⟩ : ∃ all : List (List Bool), ds = all.map tT ∧ ∀ bs ∈ all, bs.length = c.toNat := by
    clear e1 h0
    induction ds with
    | nil => exact ⟨[], rfl, fun _ h => by cases h⟩
    | cons d ds ih =>
      obtain ⟨all, rfl, q⟩ := ih fun d hd => h1 d (List.mem_cons_of_mem _ hd)
      obtain ⟨bs, rfl, hb⟩ := h1 d List.mem_cons_self
      exact ⟨bs :: all, rfl, fun b hb2 => by
        rcases List.mem_cons.mp hb2 with e | z
        · subst e; exact hb
        · exact q b z⟩
  have inj : ∀ as bs : List Bool, tT as = tT bs → as = bs := fun as bs e => by
    have := congrArg boolsOf (D.tup.inj e)
    have e2 : ∀ l : List Bool, boolsOf (l.map D.bl) = some l := fun l => by
      have := boolsOf_map (id : Bool → Bool) l
      simpa using this
    rw [e2, e2] at this
    exact Option.some.inj this
  have hm : ∀ bs, bs ∈ all ↔ bs.length = c.toNat := fun bs => ⟨hall bs, fun hb => by
    obtain ⟨a, ha, e⟩ := List.mem_map.mp (h0 bs hb)
    rw [← inj _ _ e]
    exact ha⟩
  have h2 : mLc [2] (mSeq (mCall m__law_all_truths [(mVar 0)])) (gtN 2) (mTest (mCall m__law_hold_all [(mVar 2), (mVar 1)])) (mVar 2) resF [some (.int c), some (csT css), none] S = .ok (.lst ((all.filter fun bs => hold bs css).map tT)) S := by
    rw [mLcL_filter (ds := all.map tT) (by simp only [e_fnRun, e_bnd, e_bndS, e_seq, e_if, e_ret, e_retN, e_set, e_expr, e_raise, e_nil, e_par, e_asg, e_sub, e_args0, e_args1, e_rt, e_some, e_var, e_k, e_call, e_un, e_op, e_test, e_boolD, e_bAnd, e_bOr, e_bNot, e_mAnd, e_mOr, e_mNot, e_mIf, e_chain, e_tup, e_lst, e_own, e_isN, e_notN, e_part, e_noPart, e_intD, e_sl, e_seqM, e_its, e_tupM, e_lstM, e_yes, e_el, e_gtN, e_gtNil, e_gtCons, e_gtTup, e_addI, e_subI, e_ltI, e_leI, e_gtI, e_geI, e_negI, e_lenT, e_lenL, e_tupT, e_tupL, e_lstT, e_slT, e_slL, e_ix0, e_ix1, e_ix2, e_il0, e_il1, e_il2, D.isNon, List.map_cons, List.map_nil, List.cons_append, List.nil_append, List.length_cons, List.length_nil, Nat.reduceAdd, Nat.reduceSub, List.replicate_succ, List.replicate_zero, List.set_cons_zero, List.set_cons_succ, List.getElem?_cons_zero, List.getElem?_cons_succ, Option.join_some, wipeE, if_true, if_false, reduceIte, Bool.false_eq_true, Bool.not_true, Bool.not_false, e1]) (fun d => match d with | .tup xs => (match boolsOf xs with | some bs => if hold bs css = true then some (tT bs) else none | none => none) | _ => none) fun d hd => by
      obtain ⟨bs, hb, rfl⟩ := List.mem_map.mp hd
      have e2 : boolsOf (bs.map D.bl) = some bs := by
        have := boolsOf_map (id : Bool → Bool) bs
        simpa using this
      have e3 := hold_ok (bs := bs) (css := css) (fun ns hn k hk => by have := h ns hn k hk; have := hall bs hb; omega) S
      simp only [e_fnRun, e_bnd, e_bndS, e_seq, e_if, e_ret, e_retN, e_set, e_expr, e_raise, e_nil, e_par, e_asg, e_sub, e_args0, e_args1, e_rt, e_some, e_var, e_k, e_call, e_un, e_op, e_test, e_boolD, e_bAnd, e_bOr, e_bNot, e_mAnd, e_mOr, e_mNot, e_mIf, e_chain, e_tup, e_lst, e_own, e_isN, e_notN, e_part, e_noPart, e_intD, e_sl, e_seqM, e_its, e_tupM, e_lstM, e_yes, e_el, e_gtN, e_gtNil, e_gtCons, e_gtTup, e_addI, e_subI, e_ltI, e_leI, e_gtI, e_geI, e_negI, e_lenT, e_lenL, e_tupT, e_tupL, e_lstT, e_slT, e_slL, e_ix0, e_ix1, e_ix2, e_il0, e_il1, e_il2, D.isNon, List.map_cons, List.map_nil, List.cons_append, List.nil_append, List.length_cons, List.length_nil, Nat.reduceAdd, Nat.reduceSub, List.replicate_succ, List.replicate_zero, List.set_cons_zero, List.set_cons_succ, List.getElem?_cons_zero, List.getElem?_cons_succ, Option.join_some, wipeE, if_true, if_false, reduceIte, Bool.false_eq_true, Bool.not_true, Bool.not_false, e3, e2]
      cases hold bs css <;> simp only [e_fnRun, e_bnd, e_bndS, e_seq, e_if, e_ret, e_retN, e_set, e_expr, e_raise, e_nil, e_par, e_asg, e_sub, e_args0, e_args1, e_rt, e_some, e_var, e_k, e_call, e_un, e_op, e_test, e_boolD, e_bAnd, e_bOr, e_bNot, e_mAnd, e_mOr, e_mNot, e_mIf, e_chain, e_tup, e_lst, e_own, e_isN, e_notN, e_part, e_noPart, e_intD, e_sl, e_seqM, e_its, e_tupM, e_lstM, e_yes, e_el, e_gtN, e_gtNil, e_gtCons, e_gtTup, e_addI, e_subI, e_ltI, e_leI, e_gtI, e_geI, e_negI, e_lenT, e_lenL, e_tupT, e_tupL, e_lstT, e_slT, e_slL, e_ix0, e_ix1, e_ix2, e_il0, e_il1, e_il2, D.isNon, List.map_cons, List.map_nil, List.cons_append, List.nil_append, List.length_cons, List.length_nil, Nat.reduceAdd, Nat.reduceSub, List.replicate_succ, List.replicate_zero, List.set_cons_zero, List.set_cons_succ, List.getElem?_cons_zero, List.getElem?_cons_succ, Option.join_some, wipeE, if_true, if_false, reduceIte, Bool.false_eq_true, Bool.not_true, Bool.not_false]]
    have e2 : ∀ l : List Bool, boolsOf (l.map D.bl) = some l := fun l => by
      have := boolsOf_map (id : Bool → Bool) l
      simpa using this
    rw [List.filterMap_map, ← filterMap_T (fun bs => hold bs css)]
    congr 3
    funext bs
    simp only [Function.comp, e2]
  refine ⟨all.filter fun bs => hold bs css, ?_, fun bs => ?_⟩
  · unfold m__law_models
    simp only [e_fnRun, e_bnd, e_bndS, e_seq, e_if, e_ret, e_retN, e_set, e_expr, e_raise, e_nil, e_par, e_asg, e_sub, e_args0, e_args1, e_rt, e_some, e_var, e_k, e_call, e_un, e_op, e_test, e_boolD, e_bAnd, e_bOr, e_bNot, e_mAnd, e_mOr, e_mNot, e_mIf, e_chain, e_tup, e_lst, e_own, e_isN, e_notN, e_part, e_noPart, e_intD, e_sl, e_seqM, e_its, e_tupM, e_lstM, e_yes, e_el, e_gtN, e_gtNil, e_gtCons, e_gtTup, e_addI, e_subI, e_ltI, e_leI, e_gtI, e_geI, e_negI, e_lenT, e_lenL, e_tupT, e_tupL, e_lstT, e_slT, e_slL, e_ix0, e_ix1, e_ix2, e_il0, e_il1, e_il2, D.isNon, List.map_cons, List.map_nil, List.cons_append, List.nil_append, List.length_cons, List.length_nil, Nat.reduceAdd, Nat.reduceSub, List.replicate_succ, List.replicate_zero, List.set_cons_zero, List.set_cons_succ, List.getElem?_cons_zero, List.getElem?_cons_succ, Option.join_some, wipeE, if_true, if_false, reduceIte, Bool.false_eq_true, Bool.not_true, Bool.not_false, h2]
  · rw [List.mem_filter, hm]
theorem lit_neg {bs : List Bool} {k : Int} (h : k ≠ 0) (h1 : lit bs k = true) : lit bs (-k) = false := by
  unfold lit at *
  have e : absZ (-k) = absZ k := by unfold absZ; split <;> split <;> omega
  rw [e]
  generalize bs.getD (absZ k - 1).toNat false = b at *
  by_cases hk : 0 < k
  · rw [decide_eq_true hk] at h1
    rw [decide_eq_false (by omega : ¬ 0 < -k)]
    cases b <;> first | rfl | cases h1
  · rw [decide_eq_false hk] at h1
    rw [decide_eq_true (by omega : 0 < -k)]
    cases b <;> first | rfl | cases h1
theorem abs_eq {k p : Int} (hp : 0 < p) : absZ k = p ↔ k = p ∨ k = -p := by
  unfold absZ
  split <;> omega
end K14

set_option Elab.async false
set_option maxRecDepth 100000
set_option linter.all false
set_option maxHeartbeats 4000000
namespace K14
open PySem hiding ret
open Mir
open Classical

/-! ### what is forced -/
inductive Fc (css : List (List Int)) (ns : List Int) : Int → Prop
  | base {k : Int} : k ∈ ns → Fc css ns k
  | step {c : List Int} {k : Int} : c ∈ css → k ∈ c → (∀ o ∈ c, o ≠ k → Fc css ns (-o)) → Fc css ns k
def Bad (css : List (List Int)) (ns : List Int) : Prop := [] ∈ css ∨ ∃ k, Fc css ns k ∧ Fc css ns (-k)
noncomputable def leftOf (js c : List Int) : List Int := c.filter fun k => !decide (-k ∈ js)
noncomputable def unitOf (js c : List Int) : Option Int := match leftOf js c with
  | [l] => if l ∈ js then none else some l
  | _ => none
noncomputable def onceGo (js : List Int) : List (List Int) → Option (List Int)
  | [] => some []
  | c :: r => if leftOf js c = [] then none else match onceGo js r with
    | some ls => some ((unitOf js c).toList ++ ls)
    | none => none
theorem left_nil {js c : List Int} : leftOf js c = [] ↔ ∀ k ∈ c, -k ∈ js := by
  unfold leftOf
  rw [List.filter_eq_nil_iff]
  constructor
  · intro h k hk
    have := h k hk
    simpa using this
  · intro h k hk
    simpa using h k hk
theorem unit_fc {css : List (List Int)} {ns js c : List Int} {l : Int} (hc : c ∈ css) (hj : ∀ k ∈ js, Fc css ns k) (h : unitOf js c = some l) : Fc css ns l ∧ l ∉ js := by
  unfold unitOf at h
  split at h
  · rename_i x e
    split at h
    · cases h
    · rename_i hx
      cases h
      have hm : l ∈ leftOf js c := by rw [e]; exact List.mem_singleton.mpr rfl
      have hc2 : l ∈ c := (List.mem_filter.mp hm).1
      refine ⟨.step hc hc2 fun o ho hne => hj _ ?_, hx⟩
      by_cases hn : -o ∈ js
      · exact hn
      · exfalso
        have : o ∈ leftOf js c := List.mem_filter.mpr ⟨ho, by simpa using hn⟩
        rw [e] at this
        exact hne (List.mem_singleton.mp this)
  · cases h
theorem once_none {js : List Int} : ∀ {css : List (List Int)}, onceGo js css = none → ∃ c ∈ css, ∀ k ∈ c, -k ∈ js
  | [], h => by cases h
  | c :: r, h => by
    simp only [onceGo] at h
    split at h
    · rename_i e
      exact ⟨c, List.mem_cons_self, left_nil.mp e⟩
    · split at h
      · cases h
      · rename_i e
        obtain ⟨d, hd, p⟩ := once_none e
        exact ⟨d, List.mem_cons_of_mem _ hd, p⟩
theorem once_some {js : List Int} : ∀ {css : List (List Int)} {ls : List Int}, onceGo js css = some ls → (∀ c ∈ css, leftOf js c ≠ []) ∧ (∀ l, l ∈ ls ↔ ∃ c ∈ css, unitOf js c = some l) ∧ ls.length ≤ css.length
  | [], ls, h => by
    simp only [onceGo] at h
    cases h
    exact ⟨fun _ h => (by cases h), fun l => (by simp), (by simp)⟩
  | c :: r, ls, h => by
    simp only [onceGo] at h
    split at h
    · cases h
    · rename_i hne
      split at h
      · rename_i ms e
        cases h
        obtain ⟨h1, h2, h3⟩ := once_some e
        refine ⟨fun d hd => ?_, fun l => ?_, ?_⟩
        · rcases List.mem_cons.mp hd with e | hd
          · subst e; exact hne
          · exact h1 d hd
        · rw [List.mem_append, h2]
          constructor
          · rintro (z | ⟨d, hd, e⟩)
            · cases q : unitOf js c with
              | none => rw [q] at z; simp at z
              | some m => rw [q] at z; simp at z; subst z; exact ⟨c, List.mem_cons_self, q⟩
            · exact ⟨d, List.mem_cons_of_mem _ hd, e⟩
          · rintro ⟨d, hd, e⟩
            rcases List.mem_cons.mp hd with e2 | hd
            · subst e2; left; rw [e]; simp
            · exact .inr ⟨d, hd, e⟩
        · rw [List.length_append, List.length_cons]
          have : (unitOf js c).toList.length ≤ 1 := by cases unitOf js c <;> simp
          omega
      · cases h
/-- closed: nothing more is forced -/
theorem closed_of {css : List (List Int)} {ns js : List Int} (hns : ∀ k ∈ ns, k ∈ js) (hnd : ∀ c ∈ css, c.Nodup) (h1 : ∀ c ∈ css, leftOf js c ≠ []) (h2 : ∀ c ∈ css, unitOf js c = none) : ∀ k, Fc css ns k → k ∈ js := by
  intro k h
  induction h with
  | base h => exact hns _ h
  | @step c k hc hk _ ih =>
    by_cases hkj : k ∈ js
    · exact hkj
    · exfalso
      have sub : ∀ o ∈ leftOf js c, o = k := fun o ho => by
        by_cases e : o = k
        · exact e
        · have := ih o (List.mem_filter.mp ho).1 e
          have h3 := (List.mem_filter.mp ho).2
          simp [this] at h3
      have hl : leftOf js c = [k] := by
        have nd : (leftOf js c).Nodup := (hnd c hc).sublist List.filter_sublist
        cases q : leftOf js c with
        | nil => exact absurd q (h1 c hc)
        | cons a r =>
          have ha : a = k := sub a (by rw [q]; exact List.mem_cons_self)
          subst ha
          cases r with
          | nil => rfl
          | cons b r =>
            have hb : b = a := sub b (by rw [q]; simp)
            rw [q] at nd
            subst hb
            simp at nd
      have := h2 c hc
      unfold unitOf at this
      rw [hl] at this
      simp [hkj] at this

/-! ### forced_once -/
theorem nin_dict {p : Nat} {js : List Int} {es : List D} {k : Int} {S : Store} (e : S[p]? = some (.dic (js.map Sum.inl) es)) : ninDict (.int k) (.ref p) S = .ok (.bl (!decide (k ∈ js))) S := by
  simp only [ninDict, keyOfD, dictOf, e, hasK_ints]
theorem in_dict {p : Nat} {js : List Int} {es : List D} {k : Int} {S : Store} (e : S[p]? = some (.dic (js.map Sum.inl) es)) : inDict (.int k) (.ref p) S = .ok (.bl (decide (k ∈ js))) S := by
  simp only [inDict, keyOfD, dictOf, e, hasK_ints]
theorem eq_lst0 (ns : List Int) (S : Store) : eqD (.lst (ns.map .int)) (.lst []) S = .ok (.bl (decide (ns = []))) S := eq_lstI ns [] S
noncomputable def foB : MS := (sSeq (sSet 4 (mLc [5] (mSeq (mVar 3)) (gtN 5) (mTest (mOp ninDict (mUn negD (mVar 5)) (mVar 1))) (mVar 5) resF))
  (sSeq (sIf (mTest (mOp eqD (mVar 4) (mLst []))) (sRet (mK .non)) sNil)
  (sIf (bAnd (mTest (mOp eqD (mCall lenD [(mVar 4)]) (mK (.int 1)))) (mTest (mOp ninDict (mOp ixD (mVar 4) (mK (.int 0))) (mVar 1)))) (sExpr (mMtL appD (mVar 2) [(mOp ixD (mVar 4) (mK (.int 0)))])) sNil)))
theorem fo_body {S : Store} {p q : Nat} {js c ls : List Int} {es : List D} {x0 x4 x5 : Option D} (e : S[p]? = some (.dic (js.map Sum.inl) es)) (hq : S[q]? = some (.lst (ls.map .int))) (hz : ls.length ≤ 900) :
    (leftOf js c = [] ∧ foB [x0, some (.ref p), some (.ref q), some (clT c), x4, x5] S = .rt .non S) ∨
    (leftOf js c ≠ [] ∧ ∃ y4, foB [x0, some (.ref p), some (.ref q), some (clT c), x4, x5] S = .nx [x0, some (.ref p), some (.ref q), some (clT c), y4, x5] (match unitOf js c with | some l => S.set q (.lst (ls.map .int ++ [.int l])) | none => S)) := by
  have h1 : mLc [5] (mSeq (mVar 3)) (gtN 5) (mTest (mOp ninDict (mUn negD (mVar 5)) (mVar 1))) (mVar 5) resF [x0, some (.ref p), some (.ref q), some (clT c), x4, x5] S = .ok (.lst ((leftOf js c).map .int)) S := by
    rw [mLcT_intsF (ns := c) (q := fun k => if (!decide (-k ∈ js)) = true then some (D.int k) else none) (by simp only [e_fnRun, e_bnd, e_bndS, e_seq, e_if, e_ret, e_retN, e_set, e_expr, e_raise, e_nil, e_par, e_asg, e_sub, e_args0, e_args1, e_rt, e_some, e_var, e_k, e_call, e_un, e_op, e_test, e_boolD, e_bAnd, e_bOr, e_bNot, e_mAnd, e_mOr, e_mNot, e_mIf, e_chain, e_tup, e_lst, e_own, e_isN, e_notN, e_part, e_noPart, e_intD, e_sl, e_seqM, e_its, e_tupM, e_lstM, e_yes, e_el, e_gtN, e_gtNil, e_gtCons, e_gtTup, e_addI, e_subI, e_ltI, e_leI, e_gtI, e_geI, e_negI, e_lenT, e_lenL, e_tupT, e_tupL, e_lstT, e_slT, e_slL, e_ix0, e_ix1, e_ix2, e_il0, e_il1, e_il2, D.isNon, List.map_cons, List.map_nil, List.cons_append, List.nil_append, List.length_cons, List.length_nil, Nat.reduceAdd, Nat.reduceSub, List.replicate_succ, List.replicate_zero, List.set_cons_zero, List.set_cons_succ, List.getElem?_cons_zero, List.getElem?_cons_succ, Option.join_some, wipeE, if_true, if_false, reduceIte, Bool.false_eq_true, Bool.not_true, Bool.not_false]) fun k hk => by
      simp only [e_fnRun, e_bnd, e_bndS, e_seq, e_if, e_ret, e_retN, e_set, e_expr, e_raise, e_nil, e_par, e_asg, e_sub, e_args0, e_args1, e_rt, e_some, e_var, e_k, e_call, e_un, e_op, e_test, e_boolD, e_bAnd, e_bOr, e_bNot, e_mAnd, e_mOr, e_mNot, e_mIf, e_chain, e_tup, e_lst, e_own, e_isN, e_notN, e_part, e_noPart, e_intD, e_sl, e_seqM, e_its, e_tupM, e_lstM, e_yes, e_el, e_gtN, e_gtNil, e_gtCons, e_gtTup, e_addI, e_subI, e_ltI, e_leI, e_gtI, e_geI, e_negI, e_lenT, e_lenL, e_tupT, e_tupL, e_lstT, e_slT, e_slL, e_ix0, e_ix1, e_ix2, e_il0, e_il1, e_il2, D.isNon, List.map_cons, List.map_nil, List.cons_append, List.nil_append, List.length_cons, List.length_nil, Nat.reduceAdd, Nat.reduceSub, List.replicate_succ, List.replicate_zero, List.set_cons_zero, List.set_cons_succ, List.getElem?_cons_zero, List.getElem?_cons_succ, Option.join_some, wipeE, if_true, if_false, reduceIte, Bool.false_eq_true, Bool.not_true, Bool.not_false, nin_dict e]
      by_cases hh : -k ∈ js <;> simp only [e_fnRun, e_bnd, e_bndS, e_seq, e_if, e_ret, e_retN, e_set, e_expr, e_raise, e_nil, e_par, e_asg, e_sub, e_args0, e_args1, e_rt, e_some, e_var, e_k, e_call, e_un, e_op, e_test, e_boolD, e_bAnd, e_bOr, e_bNot, e_mAnd, e_mOr, e_mNot, e_mIf, e_chain, e_tup, e_lst, e_own, e_isN, e_notN, e_part, e_noPart, e_intD, e_sl, e_seqM, e_its, e_tupM, e_lstM, e_yes, e_el, e_gtN, e_gtNil, e_gtCons, e_gtTup, e_addI, e_subI, e_ltI, e_leI, e_gtI, e_geI, e_negI, e_lenT, e_lenL, e_tupT, e_tupL, e_lstT, e_slT, e_slL, e_ix0, e_ix1, e_ix2, e_il0, e_il1, e_il2, D.isNon, List.map_cons, List.map_nil, List.cons_append, List.nil_append, List.length_cons, List.length_nil, Nat.reduceAdd, Nat.reduceSub, List.replicate_succ, List.replicate_zero, List.set_cons_zero, List.set_cons_succ, List.getElem?_cons_zero, List.getElem?_cons_succ, Option.join_some, wipeE, if_true, if_false, reduceIte, Bool.false_eq_true, Bool.not_true, Bool.not_false, hh, decide_true, decide_false]]
    rw [filterMap_int]
    rfl
  unfold foB unitOf
  cases hl : leftOf js c with
  | nil =>
    rw [hl] at h1
    refine .inl ⟨rfl, ?_⟩
    simp only [e_fnRun, e_bnd, e_bndS, e_seq, e_if, e_ret, e_retN, e_set, e_expr, e_raise, e_nil, e_par, e_asg, e_sub, e_args0, e_args1, e_rt, e_some, e_var, e_k, e_call, e_un, e_op, e_test, e_boolD, e_bAnd, e_bOr, e_bNot, e_mAnd, e_mOr, e_mNot, e_mIf, e_chain, e_tup, e_lst, e_own, e_isN, e_notN, e_part, e_noPart, e_intD, e_sl, e_seqM, e_its, e_tupM, e_lstM, e_yes, e_el, e_gtN, e_gtNil, e_gtCons, e_gtTup, e_addI, e_subI, e_ltI, e_leI, e_gtI, e_geI, e_negI, e_lenT, e_lenL, e_tupT, e_tupL, e_lstT, e_slT, e_slL, e_ix0, e_ix1, e_ix2, e_il0, e_il1, e_il2, D.isNon, List.map_cons, List.map_nil, List.cons_append, List.nil_append, List.length_cons, List.length_nil, Nat.reduceAdd, Nat.reduceSub, List.replicate_succ, List.replicate_zero, List.set_cons_zero, List.set_cons_succ, List.getElem?_cons_zero, List.getElem?_cons_succ, Option.join_some, wipeE, if_true, if_false, reduceIte, Bool.false_eq_true, Bool.not_true, Bool.not_false, h1, eq_lst0, decide_true]
    have := eq_lst0 [] S
    simp only [List.map_nil] at this
    simp only [e_fnRun, e_bnd, e_bndS, e_seq, e_if, e_ret, e_retN, e_set, e_expr, e_raise, e_nil, e_par, e_asg, e_sub, e_args0, e_args1, e_rt, e_some, e_var, e_k, e_call, e_un, e_op, e_test, e_boolD, e_bAnd, e_bOr, e_bNot, e_mAnd, e_mOr, e_mNot, e_mIf, e_chain, e_tup, e_lst, e_own, e_isN, e_notN, e_part, e_noPart, e_intD, e_sl, e_seqM, e_its, e_tupM, e_lstM, e_yes, e_el, e_gtN, e_gtNil, e_gtCons, e_gtTup, e_addI, e_subI, e_ltI, e_leI, e_gtI, e_geI, e_negI, e_lenT, e_lenL, e_tupT, e_tupL, e_lstT, e_slT, e_slL, e_ix0, e_ix1, e_ix2, e_il0, e_il1, e_il2, D.isNon, List.map_cons, List.map_nil, List.cons_append, List.nil_append, List.length_cons, List.length_nil, Nat.reduceAdd, Nat.reduceSub, List.replicate_succ, List.replicate_zero, List.set_cons_zero, List.set_cons_succ, List.getElem?_cons_zero, List.getElem?_cons_succ, Option.join_some, wipeE, if_true, if_false, reduceIte, Bool.false_eq_true, Bool.not_true, Bool.not_false, this, decide_true]
  | cons a r =>
    rw [hl] at h1
    refine .inr ⟨by simp, some (.lst ((a :: r).map .int)), ?_⟩
    have e0 := eq_lst0 (a :: r) S
    have e0' : decide (a :: r = []) = false := by simp
    rw [e0'] at e0
    have el : ((r.length + 1 : Nat) : Int) = 1 ↔ r = [] := by
      constructor
      · intro h
        have : r.length = 0 := by omega
        exact List.length_eq_zero_iff.mp this
      · intro h; subst h; rfl
    cases r with
    | nil =>
      have e1 : (((0 + 1 : Nat)) : Int) = 1 := rfl
      simp only [List.map_cons, List.map_nil] at h1 e0
      by_cases hj : a ∈ js
      · simp only [e_fnRun, e_bnd, e_bndS, e_seq, e_if, e_ret, e_retN, e_set, e_expr, e_raise, e_nil, e_par, e_asg, e_sub, e_args0, e_args1, e_rt, e_some, e_var, e_k, e_call, e_un, e_op, e_test, e_boolD, e_bAnd, e_bOr, e_bNot, e_mAnd, e_mOr, e_mNot, e_mIf, e_chain, e_tup, e_lst, e_own, e_isN, e_notN, e_part, e_noPart, e_intD, e_sl, e_seqM, e_its, e_tupM, e_lstM, e_yes, e_el, e_gtN, e_gtNil, e_gtCons, e_gtTup, e_addI, e_subI, e_ltI, e_leI, e_gtI, e_geI, e_negI, e_lenT, e_lenL, e_tupT, e_tupL, e_lstT, e_slT, e_slL, e_ix0, e_ix1, e_ix2, e_il0, e_il1, e_il2, D.isNon, List.map_cons, List.map_nil, List.cons_append, List.nil_append, List.length_cons, List.length_nil, Nat.reduceAdd, Nat.reduceSub, List.replicate_succ, List.replicate_zero, List.set_cons_zero, List.set_cons_succ, List.getElem?_cons_zero, List.getElem?_cons_succ, Option.join_some, wipeE, if_true, if_false, reduceIte, Bool.false_eq_true, Bool.not_true, Bool.not_false, h1, e0, eq_int, e1, decide_true, nin_dict e, hj]
      · have ea := app_ok (d := .int a) hq (by rw [List.length_map]; omega)
        simp only [e_fnRun, e_bnd, e_bndS, e_seq, e_if, e_ret, e_retN, e_set, e_expr, e_raise, e_nil, e_par, e_asg, e_sub, e_args0, e_args1, e_rt, e_some, e_var, e_k, e_call, e_un, e_op, e_test, e_boolD, e_bAnd, e_bOr, e_bNot, e_mAnd, e_mOr, e_mNot, e_mIf, e_chain, e_tup, e_lst, e_own, e_isN, e_notN, e_part, e_noPart, e_intD, e_sl, e_seqM, e_its, e_tupM, e_lstM, e_yes, e_el, e_gtN, e_gtNil, e_gtCons, e_gtTup, e_addI, e_subI, e_ltI, e_leI, e_gtI, e_geI, e_negI, e_lenT, e_lenL, e_tupT, e_tupL, e_lstT, e_slT, e_slL, e_ix0, e_ix1, e_ix2, e_il0, e_il1, e_il2, D.isNon, List.map_cons, List.map_nil, List.cons_append, List.nil_append, List.length_cons, List.length_nil, Nat.reduceAdd, Nat.reduceSub, List.replicate_succ, List.replicate_zero, List.set_cons_zero, List.set_cons_succ, List.getElem?_cons_zero, List.getElem?_cons_succ, Option.join_some, wipeE, if_true, if_false, reduceIte, Bool.false_eq_true, Bool.not_true, Bool.not_false, h1, e0, eq_int, e1, decide_true, nin_dict e, hj, decide_false, e_mt, lst_ref hq, ea]
    | cons b r =>
      have e1 : ¬ ((((r.length + 1 + 1 : Nat)) : Int) = 1) := by omega
      simp only [List.map_cons] at h1 e0
      simp only [e_fnRun, e_bnd, e_bndS, e_seq, e_if, e_ret, e_retN, e_set, e_expr, e_raise, e_nil, e_par, e_asg, e_sub, e_args0, e_args1, e_rt, e_some, e_var, e_k, e_call, e_un, e_op, e_test, e_boolD, e_bAnd, e_bOr, e_bNot, e_mAnd, e_mOr, e_mNot, e_mIf, e_chain, e_tup, e_lst, e_own, e_isN, e_notN, e_part, e_noPart, e_intD, e_sl, e_seqM, e_its, e_tupM, e_lstM, e_yes, e_el, e_gtN, e_gtNil, e_gtCons, e_gtTup, e_addI, e_subI, e_ltI, e_leI, e_gtI, e_geI, e_negI, e_lenT, e_lenL, e_tupT, e_tupL, e_lstT, e_slT, e_slL, e_ix0, e_ix1, e_ix2, e_il0, e_il1, e_il2, D.isNon, List.map_cons, List.map_nil, List.cons_append, List.nil_append, List.length_cons, List.length_nil, Nat.reduceAdd, Nat.reduceSub, List.replicate_succ, List.replicate_zero, List.set_cons_zero, List.set_cons_succ, List.getElem?_cons_zero, List.getElem?_cons_succ, Option.join_some, wipeE, if_true, if_false, reduceIte, Bool.false_eq_true, Bool.not_true, Bool.not_false, h1, e0, eq_int, List.length_map, e1, decide_false]
theorem fo_loop {p q : Nat} {js : List Int} {es : List D} {x0 x5 : Option D} {g : Store → Prop} (hg : ∀ S, g S) (hpq : p ≠ q) : ∀ (css : List (List Int)) (ls : List Int) (S : Store) (x3 x4 : Option D), S[p]? = some (.dic (js.map Sum.inl) es) → S[q]? = some (.lst (ls.map .int)) → ls.length + css.length ≤ 900 →
    (onceGo js css = none ∧ ∃ S', forD g (gtN 3) foB (css.map clT) [x0, some (.ref p), some (.ref q), x3, x4, x5] S = .rt .non S' ∧ ∀ i, i ≠ q → S'[i]? = S[i]?) ∨
    ∃ ms y3 y4 S', onceGo js css = some ms ∧ forD g (gtN 3) foB (css.map clT) [x0, some (.ref p), some (.ref q), x3, x4, x5] S = .nx [x0, some (.ref p), some (.ref q), y3, y4, x5] S' ∧ S'[q]? = some (.lst ((ls ++ ms).map .int)) ∧ ∀ i, i ≠ q → S'[i]? = S[i]?
  | [], ls, S, x3, x4, e, hq, _ => .inr ⟨[], x3, x4, S, rfl, by simp only [List.map_nil, forD, if_pos (hg S)], by simpa using hq, fun _ _ => rfl⟩
  | c :: css, ls, S, x3, x4, e, hq, hz => by
    simp only [List.length_cons] at hz
    rcases fo_body (x0 := x0) (x4 := x4) (x5 := x5) (c := c) e hq (by omega) with ⟨h1, h2⟩ | ⟨h1, y4, h2⟩
    · refine .inl ⟨by simp only [onceGo, if_pos h1], S, ?_, fun _ _ => rfl⟩
      simp only [List.map_cons, forD, if_pos (hg S)]
      simp only [e_fnRun, e_bnd, e_bndS, e_seq, e_if, e_ret, e_retN, e_set, e_expr, e_raise, e_nil, e_par, e_asg, e_sub, e_args0, e_args1, e_rt, e_some, e_var, e_k, e_call, e_un, e_op, e_test, e_boolD, e_bAnd, e_bOr, e_bNot, e_mAnd, e_mOr, e_mNot, e_mIf, e_chain, e_tup, e_lst, e_own, e_isN, e_notN, e_part, e_noPart, e_intD, e_sl, e_seqM, e_its, e_tupM, e_lstM, e_yes, e_el, e_gtN, e_gtNil, e_gtCons, e_gtTup, e_addI, e_subI, e_ltI, e_leI, e_gtI, e_geI, e_negI, e_lenT, e_lenL, e_tupT, e_tupL, e_lstT, e_slT, e_slL, e_ix0, e_ix1, e_ix2, e_il0, e_il1, e_il2, D.isNon, List.map_cons, List.map_nil, List.cons_append, List.nil_append, List.length_cons, List.length_nil, Nat.reduceAdd, Nat.reduceSub, List.replicate_succ, List.replicate_zero, List.set_cons_zero, List.set_cons_succ, List.getElem?_cons_zero, List.getElem?_cons_succ, Option.join_some, wipeE, if_true, if_false, reduceIte, Bool.false_eq_true, Bool.not_true, Bool.not_false]
      rw [h2]
    · -- the list behind this clause
      obtain ⟨S1, hS1, hq1, ho1⟩ : ∃ S1, foB [x0, some (.ref p), some (.ref q), some (clT c), x4, x5] S = .nx [x0, some (.ref p), some (.ref q), some (clT c), y4, x5] S1 ∧ S1[q]? = some (.lst ((ls ++ (unitOf js c).toList).map .int)) ∧ ∀ i, i ≠ q → S1[i]? = S[i]? := by
        cases hu : unitOf js c with
        | none => rw [hu] at h2; exact ⟨S, h2, by simpa using hq, fun _ _ => rfl⟩
        | some l => rw [hu] at h2; exact ⟨_, h2, by rw [set_at hq]; simp, fun i hi => set_off hi⟩
      have hl1 : (unitOf js c).toList.length ≤ 1 := by cases unitOf js c <;> simp
      have st : forD g (gtN 3) foB ((c :: css).map clT) [x0, some (.ref p), some (.ref q), x3, x4, x5] S = forD g (gtN 3) foB (css.map clT) [x0, some (.ref p), some (.ref q), some (clT c), y4, x5] S1 := by
        simp only [List.map_cons, forD, if_pos (hg S)]
        simp only [e_fnRun, e_bnd, e_bndS, e_seq, e_if, e_ret, e_retN, e_set, e_expr, e_raise, e_nil, e_par, e_asg, e_sub, e_args0, e_args1, e_rt, e_some, e_var, e_k, e_call, e_un, e_op, e_test, e_boolD, e_bAnd, e_bOr, e_bNot, e_mAnd, e_mOr, e_mNot, e_mIf, e_chain, e_tup, e_lst, e_own, e_isN, e_notN, e_part, e_noPart, e_intD, e_sl, e_seqM, e_its, e_tupM, e_lstM, e_yes, e_el, e_gtN, e_gtNil, e_gtCons, e_gtTup, e_addI, e_subI, e_ltI, e_leI, e_gtI, e_geI, e_negI, e_lenT, e_lenL, e_tupT, e_tupL, e_lstT, e_slT, e_slL, e_ix0, e_ix1, e_ix2, e_il0, e_il1, e_il2, D.isNon, List.map_cons, List.map_nil, List.cons_append, List.nil_append, List.length_cons, List.length_nil, Nat.reduceAdd, Nat.reduceSub, List.replicate_succ, List.replicate_zero, List.set_cons_zero, List.set_cons_succ, List.getElem?_cons_zero, List.getElem?_cons_succ, Option.join_some, wipeE, if_true, if_false, reduceIte, Bool.false_eq_true, Bool.not_true, Bool.not_false]
        rw [hS1]
      rw [st]
      have e1 : S1[p]? = some (.dic (js.map Sum.inl) es) := by rw [ho1 p hpq]; exact e
      rcases fo_loop hg hpq css (ls ++ (unitOf js c).toList) S1 (some (clT c)) y4 e1 hq1 (by rw [List.length_append]; omega) with ⟨n1, S', e2, o2⟩ | ⟨ms, z3, z4, S', n1, e2, q2, o2⟩
      · exact .inl ⟨by simp only [onceGo, if_neg h1, n1], S', e2, fun i hi => (o2 i hi).trans (ho1 i hi)⟩
      · exact .inr ⟨(unitOf js c).toList ++ ms, z3, z4, S', by simp only [onceGo, if_neg h1, n1], e2, by rw [← List.append_assoc]; exact q2, fun i hi => (o2 i hi).trans (ho1 i hi)⟩
theorem forced_once_ok {S : Store} {p : Nat} {css : List (List Int)} {js : List Int} {es : List D} (e : S[p]? = some (.dic (js.map Sum.inl) es)) (hz : css.length ≤ 900) :
    (onceGo js css = none ∧ ∃ S', m_forced_once [csT css, .ref p] S = .ok .non S' ∧ ∀ i, i < S.length → S'[i]? = S[i]?) ∨
    ∃ ms S' q, onceGo js css = some ms ∧ m_forced_once [csT css, .ref p] S = .ok (.ref q) S' ∧ S'[q]? = some (.lst (ms.map .int)) ∧ S.length ≤ q ∧ ∀ i, i < S.length → S'[i]? = S[i]? := by
  have hp : p < S.length := (List.getElem?_eq_some_iff.mp e).1
  let S1 : Store := S ++ [.lst ([] : List D)]
  have q1 : S1[S.length]? = some (.lst (([] : List Int).map .int)) := by
    show (S ++ [_])[S.length]? = _
    rw [List.getElem?_append_right (Nat.le_refl _), Nat.sub_self]; rfl
  have o1 : ∀ i, i < S.length → S1[i]? = S[i]? := fun i hi => List.getElem?_append_left hi
  have e1 : S1[p]? = some (.dic (js.map Sum.inl) es) := by rw [o1 p hp]; exact e
  have go : m_forced_once [csT css, .ref p] S = (match (match forD (fun S' => seqOf S' (csT css) = some (true, css.map clT)) (gtN 3) foB (css.map clT) [some (csT css), some (.ref p), some (.ref S.length), none, none, none] S1 with
      | .nx env' S' => sRet (mVar 2) env' S'
      | .rt d S' => .rt d S'
      | .bk e S' => .bk e S'
      | .ct e S' => .ct e S'
      | .err c e S' => .err c e S'
      | .stuck => .stuck) with
    | .rt d S' => .ok d S'
    | .nx _ S' => .ok .non S'
    | .err c _ S' => .err c S'
    | _ => .stuck) := by
    unfold m_forced_once
    simp only [e_fnRun, e_bnd, e_bndS, e_seq, e_if, e_ret, e_retN, e_set, e_expr, e_raise, e_nil, e_par, e_asg, e_sub, e_args0, e_args1, e_rt, e_some, e_var, e_k, e_call, e_un, e_op, e_test, e_boolD, e_bAnd, e_bOr, e_bNot, e_mAnd, e_mOr, e_mNot, e_mIf, e_chain, e_tup, e_lst, e_own, e_isN, e_notN, e_part, e_noPart, e_intD, e_sl, e_seqM, e_its, e_tupM, e_lstM, e_yes, e_el, e_gtN, e_gtNil, e_gtCons, e_gtTup, e_addI, e_subI, e_ltI, e_leI, e_gtI, e_geI, e_negI, e_lenT, e_lenL, e_tupT, e_tupL, e_lstT, e_slT, e_slL, e_ix0, e_ix1, e_ix2, e_il0, e_il1, e_il2, D.isNon, List.map_cons, List.map_nil, List.cons_append, List.nil_append, List.length_cons, List.length_nil, Nat.reduceAdd, Nat.reduceSub, List.replicate_succ, List.replicate_zero, List.set_cons_zero, List.set_cons_succ, List.getElem?_cons_zero, List.getElem?_cons_succ, Option.join_some, wipeE, if_true, if_false, reduceIte, Bool.false_eq_true, Bool.not_true, Bool.not_false, e_for]
    rfl
  rw [go]
  rcases fo_loop (g := fun S' => seqOf S' (csT css) = some (true, css.map clT)) (x0 := some (csT css)) (x5 := none) (fun _ => rfl) (show p ≠ S.length by omega) css [] S1 none none e1 q1 (by simpa using hz) with ⟨n1, S', e2, o2⟩ | ⟨ms, y3, y4, S', n1, e2, q2, o2⟩
  · refine .inl ⟨n1, S', by rw [e2], fun i hi => (o2 i (by omega)).trans (o1 i hi)⟩
  · refine .inr ⟨ms, S', S.length, n1, ?_, by simpa using q2, Nat.le_refl _, fun i hi => (o2 i (by omega)).trans (o1 i hi)⟩
    rw [e2]
    simp only [e_fnRun, e_bnd, e_bndS, e_seq, e_if, e_ret, e_retN, e_set, e_expr, e_raise, e_nil, e_par, e_asg, e_sub, e_args0, e_args1, e_rt, e_some, e_var, e_k, e_call, e_un, e_op, e_test, e_boolD, e_bAnd, e_bOr, e_bNot, e_mAnd, e_mOr, e_mNot, e_mIf, e_chain, e_tup, e_lst, e_own, e_isN, e_notN, e_part, e_noPart, e_intD, e_sl, e_seqM, e_its, e_tupM, e_lstM, e_yes, e_el, e_gtN, e_gtNil, e_gtCons, e_gtTup, e_addI, e_subI, e_ltI, e_leI, e_gtI, e_geI, e_negI, e_lenT, e_lenL, e_tupT, e_tupL, e_lstT, e_slT, e_slL, e_ix0, e_ix1, e_ix2, e_il0, e_il1, e_il2, D.isNon, List.map_cons, List.map_nil, List.cons_append, List.nil_append, List.length_cons, List.length_nil, Nat.reduceAdd, Nat.reduceSub, List.replicate_succ, List.replicate_zero, List.set_cons_zero, List.set_cons_succ, List.getElem?_cons_zero, List.getElem?_cons_succ, Option.join_some, wipeE, if_true, if_false, reduceIte, Bool.false_eq_true, Bool.not_true, Bool.not_false]
end K14

set_option Elab.async false
set_option maxRecDepth 100000
set_option linter.all false
set_option maxHeartbeats 4000000
namespace K14
open PySem hiding ret
open Mir
open Classical

theorem filter_lt {p p' : Int → Bool} (h : ∀ k, p' k = true → p k = true) : ∀ {U : List Int} {l : Int}, l ∈ U → p l = true → p' l = false → (U.filter p').length < (U.filter p).length
  | [], _, hl, _, _ => by cases hl
  | a :: U, l, hl, h1, h2 => by
    have le : ∀ U : List Int, (U.filter p').length ≤ (U.filter p).length := fun U => by
      induction U with
      | nil => exact Nat.le_refl _
      | cons b U ih =>
        by_cases hb : p' b = true
        · rw [List.filter_cons_of_pos hb, List.filter_cons_of_pos (h b hb)]; simp only [List.length_cons]; omega
        · rw [List.filter_cons_of_neg hb]
          by_cases hb2 : p b = true
          · rw [List.filter_cons_of_pos hb2, List.length_cons]; omega
          · rw [List.filter_cons_of_neg hb2]; exact ih
    rcases List.mem_cons.mp hl with e | hl
    · subst e
      rw [List.filter_cons_of_pos h1, List.filter_cons_of_neg (by rw [h2]; exact Bool.false_ne_true), List.length_cons]
      have := le U
      omega
    · have ih := filter_lt h hl h1 h2
      by_cases hb : p' a = true
      · rw [List.filter_cons_of_pos hb, List.filter_cons_of_pos (h a hb)]; simp only [List.length_cons]; omega
      · rw [List.filter_cons_of_neg hb]
        by_cases hb2 : p a = true
        · rw [List.filter_cons_of_pos hb2, List.length_cons]; omega
        · rw [List.filter_cons_of_neg hb2]; exact ih
theorem nodup_len : ∀ (js U : List Int), js.Nodup → (∀ k ∈ js, k ∈ U) → js.length ≤ U.length
  | [], _, _, _ => Nat.zero_le _
  | k :: js, U, hn, hs => by
    obtain ⟨h1, h2⟩ := List.nodup_cons.mp hn
    have hk := hs k List.mem_cons_self
    have := nodup_len js (U.erase k) h2 fun j hj => (List.mem_erase_of_ne fun e => h1 (by rw [← e]; exact hj)).mpr (hs j (List.mem_cons_of_mem _ hj))
    rw [List.length_erase_of_mem hk] at this
    have : 0 < U.length := List.length_pos_of_mem hk
    simp only [List.length_cons]
    omega
theorem dcD_len {g : Store → Prop} {f : D → M (Option (L2.Key × D))} : ∀ {ds : List D} {ks : List L2.Key} {es : List D} {S S' : Store} {q : List L2.Key × List D}, ks.length = es.length → dcD g f ds ks es S = .ok q S' → q.1.length = q.2.length
  | [], ks, es, S, S', q, h, e => by
    simp only [dcD] at e
    split at e
    · cases e; exact h
    · cases e
  | d :: ds, ks, es, S, S', q, h, e => by
    simp only [dcD] at e
    split at e
    · split at e
      · exact dcD_len h e
      · exact dcD_len (putD_length h).1 e
      · cases e
    · cases e
theorem put_ints {js : List Int} {es : List D} {k : Int} {d : D} (hn : js.Nodup) : ∃ js' : List Int, (putD (js.map Sum.inl) es (.inl k) d).1 = js'.map Sum.inl ∧ js'.Nodup ∧ ∀ j, j ∈ js' ↔ j ∈ js ∨ j = k := by
  by_cases hm : k ∈ js
  · refine ⟨js, ?_, hn, fun j => ⟨.inl, fun z => z.elim id fun e => e ▸ hm⟩⟩
    unfold putD
    rw [hasK_ints, if_pos (decide_eq_true hm)]
  · refine ⟨js ++ [k], ?_, List.nodup_append.mpr ⟨hn, by simp, fun a ha b hb => ?_⟩, fun j => by simp⟩
    · unfold putD
      rw [hasK_ints, if_neg (by simpa using hm), List.map_append]
      rfl
    · simp at hb
      subst hb
      exact fun e => hm (e ▸ ha)
theorem merge_ints : ∀ (ks : List Int) (ds : List D) (js : List Int) (es : List D), ks.length = ds.length → js.Nodup → ∃ js' : List Int, (mergeD ((ks.map Sum.inl).zip ds) (js.map Sum.inl) es).1 = js'.map Sum.inl ∧ js'.Nodup ∧ ∀ j, j ∈ js' ↔ j ∈ js ∨ j ∈ ks
  | [], ds, js, es, _, hn => ⟨js, by simp [mergeD], hn, fun j => by simp⟩
  | k :: ks, [], js, es, hl, _ => by simp at hl
  | k :: ks, d :: ds, js, es, hl, hn => by
    obtain ⟨js1, e1, n1, m1⟩ := put_ints (es := es) (k := k) (d := d) hn
    obtain ⟨js2, e2, n2, m2⟩ := merge_ints ks ds js1 (putD (js.map Sum.inl) es (.inl k) d).2 (by simpa using hl) n1
    refine ⟨js2, ?_, n2, fun j => ?_⟩
    · show (mergeD ((ks.map Sum.inl).zip ds) (putD (js.map Sum.inl) es (.inl k) d).1 (putD (js.map Sum.inl) es (.inl k) d).2).1 = _
      rw [e1]
      exact e2
    · rw [m2, m1, List.mem_cons]
      constructor
      · rintro ((z | z) | z)
        · exact .inl z
        · exact .inr (.inl z)
        · exact .inr (.inr z)
      · rintro (z | z | z)
        · exact .inl (.inl z)
        · exact .inl (.inr z)
        · exact .inr z
/-- the literals of a tuple or of a list of the store, as a dict's -/
theorem keys_of {me : Mir.Env → M D} {a0 a1 a2 a3 a4 : Option D} {S : Store} {d : D} {b : Bool} {ms : List Int} (hm : me [a0, a1, a2, a3, a4] S = .ok d S) (hs : seqOf S d = some (b, ms.map .int)) :
    ∃ (ks : List Int) (ds : List D), ks.Nodup ∧ (∀ k, k ∈ ks ↔ k ∈ ms) ∧ ks.length = ds.length ∧ mDc [4] (mSeq me) (gtN 4) bYes (mVar 4) (mK (.bl true)) [a0, a1, a2, a3, a4] S = .ok (.dic (ks.map Sum.inl) ds) S ∧
      mDcO [4] (mSeq me) (gtN 4) bYes (mVar 4) (mK (.bl true)) [a0, a1, a2, a3, a4] S = .ok (.ref S.length) (S ++ [.dic (ks.map Sum.inl) ds]) := by
  obtain ⟨ks, ds, e1, e2, e3⟩ := dc_ints (g := fun S' => seqOf S' d = some (b, ms.map .int)) (f := ekD (wipeE [a0, a1, a2, a3, a4] [4]) (gtN 4) bYes (mVar 4) (mK (.bl true))) (S := S) hs (fun _ => true) ms [] [] List.nodup_nil fun k hk => by
    unfold ekD
    simp only [e_fnRun, e_bnd, e_bndS, e_seq, e_if, e_ret, e_retN, e_set, e_expr, e_raise, e_nil, e_par, e_asg, e_sub, e_args0, e_args1, e_rt, e_some, e_var, e_k, e_call, e_un, e_op, e_test, e_boolD, e_bAnd, e_bOr, e_bNot, e_mAnd, e_mOr, e_mNot, e_mIf, e_chain, e_tup, e_lst, e_own, e_isN, e_notN, e_part, e_noPart, e_intD, e_sl, e_seqM, e_its, e_tupM, e_lstM, e_yes, e_el, e_gtN, e_gtNil, e_gtCons, e_gtTup, e_addI, e_subI, e_ltI, e_leI, e_gtI, e_geI, e_negI, e_lenT, e_lenL, e_tupT, e_tupL, e_lstT, e_slT, e_slL, e_ix0, e_ix1, e_ix2, e_il0, e_il1, e_il2, D.isNon, List.map_cons, List.map_nil, List.cons_append, List.nil_append, List.length_cons, List.length_nil, Nat.reduceAdd, Nat.reduceSub, List.replicate_succ, List.replicate_zero, List.set_cons_zero, List.set_cons_succ, List.getElem?_cons_zero, List.getElem?_cons_succ, Option.join_some, wipeE, if_true, if_false, reduceIte, Bool.false_eq_true, Bool.not_true, Bool.not_false]
    rfl
  have hl := dcD_len (by simp) e1
  have hq : mSeq me [a0, a1, a2, a3, a4] S = .ok (ms.map .int, fun S' => seqOf S' d = some (b, ms.map .int)) S := by
    rw [e_seqM, e_bnd, hm]
    simp only [seqM, hs]
  simp only [List.length_map] at hl
  rw [List.map_nil] at e1
  refine ⟨ks, ds, e2, fun k => by rw [e3]; simp, hl, ?_, ?_⟩
  · show bnd _ _ S = _
    rw [e_bnd, hq]
    show bnd (dcD _ _ _ [] []) _ S = _
    rw [e_bnd, e1]
    rfl
  · show bnd _ _ S = _
    rw [e_bnd, hq]
    show bnd (dcD _ _ _ [] []) _ S = _
    rw [e_bnd, e1]
    rfl
theorem ne_ref0 {S : Store} {q : Nat} {ms : List Int} (e : S[q]? = some (.lst (ms.map .int))) : neD (.ref q) (.lst []) S = .ok (.bl (decide (ms ≠ []))) S := by
  have hk : eqOk (.list (ms.map PyData.int)) (.list []) := ⟨by simp only [PyData.canLay0, layAll_ints], rfl, by simp [PyData.depth, PyData.depthAll]⟩
  have h1 : pyOf S (.ref q) = some (.list (ms.map PyData.int)) := by simp only [pyOf, seqOf, e, pyDs_ints, Option.map_some]
  have h2 : pyOf S (.lst []) = some (.list []) := rfl
  simp only [neD, h1, h2, if_pos hk, PyData.eqv]
  congr 2
  cases ms <;> rfl
noncomputable def clC : Mir.Env → M Bool := (bAnd (mTest (mNotN (mVar 3))) (mTest (mOp neD (mVar 3) (mLst []))))
noncomputable def clB : MS := (sSeq (sExpr (mMtD updD (mVar 2) [(mDc [4] (mSeq (mVar 3)) (gtN 4) bYes (mVar 4) (mK (.bl true)))]))
  (sSeq (sIf (mTest (mCall anyD [(mLc [4] (mSeq (mVar 3)) (gtN 4) bYes (mOp inDict (mUn negD (mVar 4)) (mVar 2)) resF)])) (sRet (mK .non)) sNil)
  (sSet 3 (mCall m_forced_once [(mVar 0), (mVar 2)]))))
/-- how the loop of closed ends -/
def ClEnd (css : List (List Int)) (ns : List Int) (p : Nat) (S0 : Store) (lits : Option D) (r : RS) : Prop :=
  (Bad css ns ∧ ∃ S', r = .rt .non S' ∧ ∀ i, i < p → S'[i]? = S0[i]?) ∨ (Bad css ns ∧ ∃ x4 S', r = .nx [some (csT css), lits, some (.ref p), some .non, x4] S' ∧ ∀ i, i < p → S'[i]? = S0[i]?) ∨
  (¬ Bad css ns ∧ ∃ (js : List Int) (es : List D) (q : Nat) (x4 : Option D) (S' : Store), r = .nx [some (csT css), lits, some (.ref p), some (.ref q), x4] S' ∧ S'[p]? = some (.dic (js.map Sum.inl) es) ∧ js.Nodup ∧ (∀ k, k ∈ js ↔ Fc css ns k) ∧ ∀ i, i < p → S'[i]? = S0[i]?)
theorem e_while {mc : Mir.Env → M Bool} {m : MS} {n : Nat} {env : Mir.Env} {S : Store} : whileD mc m (n + 1) env S = bndS (mc env) env (fun b S => if b = true then (match m env S with
    | .nx e S' => whileD mc m n e S'
    | .ct e S' => whileD mc m n e S'
    | .bk e S' => .nx e S'
    | .rt x S' => .rt x S'
    | .err c e S' => .err c e S'
    | .stuck => .stuck) else .nx env S) S := rfl
theorem e_mtD {g : D → List D → M D} {mo : Mir.Env → M D} {ms : List (Mir.Env → M D)} {env : Mir.Env} {S : Store} : mMtD g mo ms env S = bnd (mo env) (fun o S => match dicAt S o with
  | some _ => bnd (mArgs ms env) (fun ds => g o ds) S
  | none => .stuck) S := rfl
theorem cl_loop {css : List (List Int)} {ns : List Int} {p : Nat} {S0 : Store} {lits : Option D} (hz : css.length ≤ 900) (hU : (ns ++ css.flatten).length ≤ 900) (hnd : ∀ c ∈ css, c.Nodup) : ∀ (m : Nat) (js : List Int) (es : List D) (x3 : D) (x4 : Option D) (S : Store),
    ((ns ++ css.flatten).filter fun k => !decide (k ∈ js)).length ≤ m → S[p]? = some (.dic (js.map Sum.inl) es) → js.Nodup → js.length = es.length → (∀ k ∈ ns, k ∈ js) → (∀ k ∈ js, Fc css ns k ∧ k ∈ ns ++ css.flatten) → (∀ k ∈ js, -k ∉ js) → (∀ i, i < p → S[i]? = S0[i]?) →
    ((onceGo js css = none ∧ x3 = .non) ∨ ∃ ms q, onceGo js css = some ms ∧ x3 = .ref q ∧ S[q]? = some (.lst (ms.map .int)) ∧ p < q) →
    ∃ n r, whileD clC clB n [some (csT css), lits, some (.ref p), some x3, x4] S = r ∧ ClEnd css ns p S0 lits r
  | m, js, es, x3, x4, S, hm, hS, hn, hle, hns, hjs, hcon, hold, hx => by
    rcases hx with ⟨h1, rfl⟩ | ⟨ms, q, h1, rfl, hq, hpq⟩
    · -- some clause has nothing left
      refine ⟨1, _, rfl, .inr (.inl ⟨?_, x4, S, ?_, hold⟩)⟩
      · obtain ⟨c, hc, hk⟩ := once_none h1
        cases c with
        | nil => exact .inl hc
        | cons a r =>
          refine .inr ⟨a, .step hc List.mem_cons_self fun o ho _ => (hjs _ (hk o ho)).1, (hjs _ (hk a List.mem_cons_self)).1⟩
      · rw [e_while]
        unfold clC
        simp only [e_fnRun, e_bnd, e_bndS, e_seq, e_if, e_ret, e_retN, e_set, e_expr, e_raise, e_nil, e_par, e_asg, e_sub, e_args0, e_args1, e_rt, e_some, e_var, e_k, e_call, e_un, e_op, e_test, e_boolD, e_bAnd, e_bOr, e_bNot, e_mAnd, e_mOr, e_mNot, e_mIf, e_chain, e_tup, e_lst, e_own, e_isN, e_notN, e_part, e_noPart, e_intD, e_sl, e_seqM, e_its, e_tupM, e_lstM, e_yes, e_el, e_gtN, e_gtNil, e_gtCons, e_gtTup, e_addI, e_subI, e_ltI, e_leI, e_gtI, e_geI, e_negI, e_lenT, e_lenL, e_tupT, e_tupL, e_lstT, e_slT, e_slL, e_ix0, e_ix1, e_ix2, e_il0, e_il1, e_il2, D.isNon, List.map_cons, List.map_nil, List.cons_append, List.nil_append, List.length_cons, List.length_nil, Nat.reduceAdd, Nat.reduceSub, List.replicate_succ, List.replicate_zero, List.set_cons_zero, List.set_cons_succ, List.getElem?_cons_zero, List.getElem?_cons_succ, Option.join_some, wipeE, if_true, if_false, reduceIte, Bool.false_eq_true, Bool.not_true, Bool.not_false]
    · obtain ⟨o1, o2, o3⟩ := once_some h1
      by_cases hms : ms = []
      · subst hms
        refine ⟨1, _, rfl, .inr (.inr ⟨?_, js, es, q, x4, S, ?_, hS, hn, fun k => ⟨fun h => (hjs k h).1, ?_⟩, hold⟩)⟩
        · have hcl := closed_of hns hnd o1 fun c hc => by
            cases hu : unitOf js c with
            | none => rfl
            | some l => have := (o2 l).mpr ⟨c, hc, hu⟩; cases this
          rintro (h | ⟨k, h1, h2⟩)
          · exact o1 [] h (left_nil.mpr fun _ h => by cases h)
          · exact hcon k (hcl k h1) (hcl _ h2)
        · rw [e_while]
          unfold clC
          simp only [e_fnRun, e_bnd, e_bndS, e_seq, e_if, e_ret, e_retN, e_set, e_expr, e_raise, e_nil, e_par, e_asg, e_sub, e_args0, e_args1, e_rt, e_some, e_var, e_k, e_call, e_un, e_op, e_test, e_boolD, e_bAnd, e_bOr, e_bNot, e_mAnd, e_mOr, e_mNot, e_mIf, e_chain, e_tup, e_lst, e_own, e_isN, e_notN, e_part, e_noPart, e_intD, e_sl, e_seqM, e_its, e_tupM, e_lstM, e_yes, e_el, e_gtN, e_gtNil, e_gtCons, e_gtTup, e_addI, e_subI, e_ltI, e_leI, e_gtI, e_geI, e_negI, e_lenT, e_lenL, e_tupT, e_tupL, e_lstT, e_slT, e_slL, e_ix0, e_ix1, e_ix2, e_il0, e_il1, e_il2, D.isNon, List.map_cons, List.map_nil, List.cons_append, List.nil_append, List.length_cons, List.length_nil, Nat.reduceAdd, Nat.reduceSub, List.replicate_succ, List.replicate_zero, List.set_cons_zero, List.set_cons_succ, List.getElem?_cons_zero, List.getElem?_cons_succ, Option.join_some, wipeE, if_true, if_false, reduceIte, Bool.false_eq_true, Bool.not_true, Bool.not_false, ne_ref0 hq, ne_eq, not_true, decide_false]
        · exact closed_of hns hnd o1 (fun c hc => by
            cases hu : unitOf js c with
            | none => rfl
            | some l => have := (o2 l).mpr ⟨c, hc, hu⟩; cases this) k
      · -- known grows
        have hmf : ∀ l ∈ ms, Fc css ns l ∧ l ∉ js ∧ l ∈ ns ++ css.flatten := fun l hl => by
          obtain ⟨c, hc, hu⟩ := (o2 l).mp hl
          obtain ⟨f1, f2⟩ := unit_fc hc (fun k hk => (hjs k hk).1) hu
          refine ⟨f1, f2, List.mem_append_right _ (List.mem_flatten.mpr ⟨c, hc, ?_⟩)⟩
          unfold unitOf at hu
          split at hu
          · rename_i y ey
            split at hu
            · cases hu
            · cases hu
              have : l ∈ leftOf js c := by rw [ey]; exact List.mem_singleton.mpr rfl
              exact (List.mem_filter.mp this).1
          · cases hu
        obtain ⟨ks, ds, k1, k2, k3, k4, _⟩ := keys_of (me := mVar 3) (a0 := some (csT css)) (a1 := lits) (a2 := some (.ref p)) (a3 := some (.ref q)) (a4 := x4) (S := S) (d := .ref q) (b := false) (ms := ms) (by simp only [e_fnRun, e_bnd, e_bndS, e_seq, e_if, e_ret, e_retN, e_set, e_expr, e_raise, e_nil, e_par, e_asg, e_sub, e_args0, e_args1, e_rt, e_some, e_var, e_k, e_call, e_un, e_op, e_test, e_boolD, e_bAnd, e_bOr, e_bNot, e_mAnd, e_mOr, e_mNot, e_mIf, e_chain, e_tup, e_lst, e_own, e_isN, e_notN, e_part, e_noPart, e_intD, e_sl, e_seqM, e_its, e_tupM, e_lstM, e_yes, e_el, e_gtN, e_gtNil, e_gtCons, e_gtTup, e_addI, e_subI, e_ltI, e_leI, e_gtI, e_geI, e_negI, e_lenT, e_lenL, e_tupT, e_tupL, e_lstT, e_slT, e_slL, e_ix0, e_ix1, e_ix2, e_il0, e_il1, e_il2, D.isNon, List.map_cons, List.map_nil, List.cons_append, List.nil_append, List.length_cons, List.length_nil, Nat.reduceAdd, Nat.reduceSub, List.replicate_succ, List.replicate_zero, List.set_cons_zero, List.set_cons_succ, List.getElem?_cons_zero, List.getElem?_cons_succ, Option.join_some, wipeE, if_true, if_false, reduceIte, Bool.false_eq_true, Bool.not_true, Bool.not_false]) (seq_ref hq)
        obtain ⟨js', e1, n1, m1⟩ := merge_ints ks ds js es k3 hn
        have hl := mergeD_len ((ks.map Sum.inl).zip ds) (ks := js.map Sum.inl) (es := es) (by rw [List.length_map]; exact hle)
        let es' := (mergeD ((ks.map Sum.inl).zip ds) (js.map Sum.inl) es).2
        let S1 : Store := S.set p (.dic (js'.map Sum.inl) es')
        have hlj := nodup_len js _ hn fun k hk => (hjs k hk).2
        have hlk := nodup_len ks (ns ++ css.flatten) k1 fun k hk => (hmf k ((k2 k).mp hk)).2.2
        have hs := sl_small
        have up : updD (.ref p) [.dic (ks.map Sum.inl) ds] S = .ok .non S1 := by
          simp only [updD, hS]
          rw [if_pos (by rw [← hle, ← k3, sizeLine_eq]; omega), e1]
        have hS1 : S1[p]? = some (.dic (js'.map Sum.inl) es') := set_at hS
        have hq1 : S1[q]? = some (.lst (ms.map .int)) := by
          show (S.set p _)[q]? = _
          rw [set_off (by omega)]; exact hq
        have hold1 : ∀ i, i < p → S1[i]? = S0[i]? := fun i hi => by
          show (S.set p _)[i]? = _
          rw [set_off (by omega)]; exact hold i hi
        have hj' : ∀ k, k ∈ js' ↔ k ∈ js ∨ k ∈ ms := fun k => by rw [m1, k2]
        have any1 : mLc [4] (mSeq (mVar 3)) (gtN 4) bYes (mOp inDict (mUn negD (mVar 4)) (mVar 2)) resF [some (csT css), lits, some (.ref p), some (.ref q), x4] S1 = .ok (.lst (ms.map fun k => .bl (decide (-k ∈ js')))) S1 :=
          mLc_ints (g := fun S' => seqOf S' (.ref q) = some (false, ms.map .int)) (by
            rw [e_seqM, e_bnd]
            simp only [e_fnRun, e_bnd, e_bndS, e_seq, e_if, e_ret, e_retN, e_set, e_expr, e_raise, e_nil, e_par, e_asg, e_sub, e_args0, e_args1, e_rt, e_some, e_var, e_k, e_call, e_un, e_op, e_test, e_boolD, e_bAnd, e_bOr, e_bNot, e_mAnd, e_mOr, e_mNot, e_mIf, e_chain, e_tup, e_lst, e_own, e_isN, e_notN, e_part, e_noPart, e_intD, e_sl, e_seqM, e_its, e_tupM, e_lstM, e_yes, e_el, e_gtN, e_gtNil, e_gtCons, e_gtTup, e_addI, e_subI, e_ltI, e_leI, e_gtI, e_geI, e_negI, e_lenT, e_lenL, e_tupT, e_tupL, e_lstT, e_slT, e_slL, e_ix0, e_ix1, e_ix2, e_il0, e_il1, e_il2, D.isNon, List.map_cons, List.map_nil, List.cons_append, List.nil_append, List.length_cons, List.length_nil, Nat.reduceAdd, Nat.reduceSub, List.replicate_succ, List.replicate_zero, List.set_cons_zero, List.set_cons_succ, List.getElem?_cons_zero, List.getElem?_cons_succ, Option.join_some, wipeE, if_true, if_false, reduceIte, Bool.false_eq_true, Bool.not_true, Bool.not_false, seqM, seq_ref hq1]) (seq_ref hq1) _ fun k hk => by simp only [e_fnRun, e_bnd, e_bndS, e_seq, e_if, e_ret, e_retN, e_set, e_expr, e_raise, e_nil, e_par, e_asg, e_sub, e_args0, e_args1, e_rt, e_some, e_var, e_k, e_call, e_un, e_op, e_test, e_boolD, e_bAnd, e_bOr, e_bNot, e_mAnd, e_mOr, e_mNot, e_mIf, e_chain, e_tup, e_lst, e_own, e_isN, e_notN, e_part, e_noPart, e_intD, e_sl, e_seqM, e_its, e_tupM, e_lstM, e_yes, e_el, e_gtN, e_gtNil, e_gtCons, e_gtTup, e_addI, e_subI, e_ltI, e_leI, e_gtI, e_geI, e_negI, e_lenT, e_lenL, e_tupT, e_tupL, e_lstT, e_slT, e_slL, e_ix0, e_ix1, e_ix2, e_il0, e_il1, e_il2, D.isNon, List.map_cons, List.map_nil, List.cons_append, List.nil_append, List.length_cons, List.length_nil, Nat.reduceAdd, Nat.reduceSub, List.replicate_succ, List.replicate_zero, List.set_cons_zero, List.set_cons_succ, List.getElem?_cons_zero, List.getElem?_cons_succ, Option.join_some, wipeE, if_true, if_false, reduceIte, Bool.false_eq_true, Bool.not_true, Bool.not_false, in_dict hS1]
        have cond : clC [some (csT css), lits, some (.ref p), some (.ref q), x4] S = .ok true S := by
          unfold clC
          simp only [e_fnRun, e_bnd, e_bndS, e_seq, e_if, e_ret, e_retN, e_set, e_expr, e_raise, e_nil, e_par, e_asg, e_sub, e_args0, e_args1, e_rt, e_some, e_var, e_k, e_call, e_un, e_op, e_test, e_boolD, e_bAnd, e_bOr, e_bNot, e_mAnd, e_mOr, e_mNot, e_mIf, e_chain, e_tup, e_lst, e_own, e_isN, e_notN, e_part, e_noPart, e_intD, e_sl, e_seqM, e_its, e_tupM, e_lstM, e_yes, e_el, e_gtN, e_gtNil, e_gtCons, e_gtTup, e_addI, e_subI, e_ltI, e_leI, e_gtI, e_geI, e_negI, e_lenT, e_lenL, e_tupT, e_tupL, e_lstT, e_slT, e_slL, e_ix0, e_ix1, e_ix2, e_il0, e_il1, e_il2, D.isNon, List.map_cons, List.map_nil, List.cons_append, List.nil_append, List.length_cons, List.length_nil, Nat.reduceAdd, Nat.reduceSub, List.replicate_succ, List.replicate_zero, List.set_cons_zero, List.set_cons_succ, List.getElem?_cons_zero, List.getElem?_cons_succ, Option.join_some, wipeE, if_true, if_false, reduceIte, Bool.false_eq_true, Bool.not_true, Bool.not_false, ne_ref0 hq, ne_eq, hms, not_false_eq_true, decide_true]
        have dat : dicAt S (.ref p) = some (js.map Sum.inl, es) := by simp only [dicAt, hS]
        by_cases hany : ∃ k ∈ ms, -k ∈ js'
        · obtain ⟨k, hk, hk2⟩ := hany
          have ha : ms.any (fun k => decide (-k ∈ js')) = true := List.any_eq_true.mpr ⟨k, hk, decide_eq_true hk2⟩
          refine ⟨1, .rt .non S1, ?_, .inl ⟨.inr ⟨k, (hmf k hk).1, ?_⟩, S1, rfl, hold1⟩⟩
          · rw [e_while, e_bndS, cond]
            unfold clB
            simp only [e_fnRun, e_bnd, e_bndS, e_seq, e_if, e_ret, e_retN, e_set, e_expr, e_raise, e_nil, e_par, e_asg, e_sub, e_args0, e_args1, e_rt, e_some, e_var, e_k, e_call, e_un, e_op, e_test, e_boolD, e_bAnd, e_bOr, e_bNot, e_mAnd, e_mOr, e_mNot, e_mIf, e_chain, e_tup, e_lst, e_own, e_isN, e_notN, e_part, e_noPart, e_intD, e_sl, e_seqM, e_its, e_tupM, e_lstM, e_yes, e_el, e_gtN, e_gtNil, e_gtCons, e_gtTup, e_addI, e_subI, e_ltI, e_leI, e_gtI, e_geI, e_negI, e_lenT, e_lenL, e_tupT, e_tupL, e_lstT, e_slT, e_slL, e_ix0, e_ix1, e_ix2, e_il0, e_il1, e_il2, D.isNon, List.map_cons, List.map_nil, List.cons_append, List.nil_append, List.length_cons, List.length_nil, Nat.reduceAdd, Nat.reduceSub, List.replicate_succ, List.replicate_zero, List.set_cons_zero, List.set_cons_succ, List.getElem?_cons_zero, List.getElem?_cons_succ, Option.join_some, wipeE, if_true, if_false, reduceIte, Bool.false_eq_true, Bool.not_true, Bool.not_false, e_mtD, dat, k4, up, any1, any_map, ha]
          · rcases (hj' _).mp hk2 with z | z
            · exact (hjs _ z).1
            · exact (hmf _ z).1
        · have ha : ms.any (fun k => decide (-k ∈ js')) = false := by
            rw [Bool.eq_false_iff]
            intro z
            obtain ⟨k, hk, hk2⟩ := List.any_eq_true.mp z
            exact hany ⟨k, hk, of_decide_eq_true hk2⟩
          have hcon' : ∀ k ∈ js', -k ∉ js' := fun k hk hk2 => by
            rcases (hj' k).mp hk with z | z
            · rcases (hj' (-k)).mp hk2 with y | y
              · exact hcon k z y
              · exact hany ⟨-k, y, by rw [Int.neg_neg]; exact hk⟩
            · exact hany ⟨k, z, hk2⟩
          have hjs' : ∀ k ∈ js', Fc css ns k ∧ k ∈ ns ++ css.flatten := fun k hk => by
            rcases (hj' k).mp hk with z | z
            · exact hjs k z
            · exact ⟨(hmf k z).1, (hmf k z).2.2⟩
          have hns' : ∀ k ∈ ns, k ∈ js' := fun k hk => (hj' k).mpr (.inl (hns k hk))
          have hle' : js'.length = es'.length := by
            have := hl.1
            rw [e1, List.length_map] at this
            exact this
          -- fewer are left
          have dec : ((ns ++ css.flatten).filter fun k => !decide (k ∈ js')).length < ((ns ++ css.flatten).filter fun k => !decide (k ∈ js)).length := by
            cases ms with
            | nil => exact absurd rfl hms
            | cons l ms0 =>
              have hl0 := hmf l List.mem_cons_self
              refine filter_lt (fun k hk => ?_) hl0.2.2 (by simpa using hl0.2.1) (by simpa using (hj' l).mpr (.inr List.mem_cons_self))
              simp only [Bool.not_eq_true', decide_eq_false_iff_not] at hk ⊢
              exact fun z => hk ((hj' k).mpr (.inl z))
          have hlt : S1.length = S.length := by simp [S1]
          have hpS : p < S.length := (List.getElem?_eq_some_iff.mp hS).1
          cases m with
          | zero => omega
          | succ m =>
            rcases forced_once_ok (css := css) hS1 hz with ⟨f1, S2, f2, f3⟩ | ⟨ms2, S2, q2, f1, f2, f3, f4, f5⟩
            · have hS2 : S2[p]? = some (.dic (js'.map Sum.inl) es') := by rw [f3 p (by omega)]; exact hS1
              obtain ⟨n, r, w1, w2⟩ := cl_loop (S0 := S0) (lits := lits) hz hU hnd m js' es' .non x4 S2 (by omega) hS2 n1 hle' hns' hjs' hcon' (fun i hi => by rw [f3 i (by omega)]; exact hold1 i hi) (.inl ⟨f1, rfl⟩)
              refine ⟨n + 1, r, ?_, w2⟩
              rw [e_while, e_bndS, cond]
              unfold clB
              simp only [e_fnRun, e_bnd, e_bndS, e_seq, e_if, e_ret, e_retN, e_set, e_expr, e_raise, e_nil, e_par, e_asg, e_sub, e_args0, e_args1, e_rt, e_some, e_var, e_k, e_call, e_un, e_op, e_test, e_boolD, e_bAnd, e_bOr, e_bNot, e_mAnd, e_mOr, e_mNot, e_mIf, e_chain, e_tup, e_lst, e_own, e_isN, e_notN, e_part, e_noPart, e_intD, e_sl, e_seqM, e_its, e_tupM, e_lstM, e_yes, e_el, e_gtN, e_gtNil, e_gtCons, e_gtTup, e_addI, e_subI, e_ltI, e_leI, e_gtI, e_geI, e_negI, e_lenT, e_lenL, e_tupT, e_tupL, e_lstT, e_slT, e_slL, e_ix0, e_ix1, e_ix2, e_il0, e_il1, e_il2, D.isNon, List.map_cons, List.map_nil, List.cons_append, List.nil_append, List.length_cons, List.length_nil, Nat.reduceAdd, Nat.reduceSub, List.replicate_succ, List.replicate_zero, List.set_cons_zero, List.set_cons_succ, List.getElem?_cons_zero, List.getElem?_cons_succ, Option.join_some, wipeE, if_true, if_false, reduceIte, Bool.false_eq_true, Bool.not_true, Bool.not_false, e_mtD, dat, k4, up, any1, any_map, ha, f2]
              exact w1
            · have hS2 : S2[p]? = some (.dic (js'.map Sum.inl) es') := by rw [f5 p (by omega)]; exact hS1
              obtain ⟨n, r, w1, w2⟩ := cl_loop (S0 := S0) (lits := lits) hz hU hnd m js' es' (.ref q2) x4 S2 (by omega) hS2 n1 hle' hns' hjs' hcon' (fun i hi => by rw [f5 i (by omega)]; exact hold1 i hi) (.inr ⟨ms2, q2, f1, rfl, f3, by omega⟩)
              refine ⟨n + 1, r, ?_, w2⟩
              rw [e_while, e_bndS, cond]
              unfold clB
              simp only [e_fnRun, e_bnd, e_bndS, e_seq, e_if, e_ret, e_retN, e_set, e_expr, e_raise, e_nil, e_par, e_asg, e_sub, e_args0, e_args1, e_rt, e_some, e_var, e_k, e_call, e_un, e_op, e_test, e_boolD, e_bAnd, e_bOr, e_bNot, e_mAnd, e_mOr, e_mNot, e_mIf, e_chain, e_tup, e_lst, e_own, e_isN, e_notN, e_part, e_noPart, e_intD, e_sl, e_seqM, e_its, e_tupM, e_lstM, e_yes, e_el, e_gtN, e_gtNil, e_gtCons, e_gtTup, e_addI, e_subI, e_ltI, e_leI, e_gtI, e_geI, e_negI, e_lenT, e_lenL, e_tupT, e_tupL, e_lstT, e_slT, e_slL, e_ix0, e_ix1, e_ix2, e_il0, e_il1, e_il2, D.isNon, List.map_cons, List.map_nil, List.cons_append, List.nil_append, List.length_cons, List.length_nil, Nat.reduceAdd, Nat.reduceSub, List.replicate_succ, List.replicate_zero, List.set_cons_zero, List.set_cons_succ, List.getElem?_cons_zero, List.getElem?_cons_succ, Option.join_some, wipeE, if_true, if_false, reduceIte, Bool.false_eq_true, Bool.not_true, Bool.not_false, e_mtD, dat, k4, up, any1, any_map, ha, f2]
              exact w1
/-- the tuple of what is forced, or None -/
def Fd (css : List (List Int)) (ns : List Int) (X : D) : Prop := (Bad css ns ∧ X = .non) ∨ (¬ Bad css ns ∧ ∃ L : List Int, L.Pairwise (· < ·) ∧ (∀ k, k ∈ L ↔ Fc css ns k) ∧ X = clT L)
theorem Fd.eq {css : List (List Int)} {ns : List Int} {X Y : D} (h1 : Fd css ns X) (h2 : Fd css ns Y) : X = Y := by
  rcases h1 with ⟨b, rfl⟩ | ⟨b, L, p, m, rfl⟩
  · rcases h2 with ⟨_, rfl⟩ | ⟨c, _⟩
    · rfl
    · exact absurd b c
  · rcases h2 with ⟨c, _⟩ | ⟨_, M, q, n, rfl⟩
    · exact absurd c b
    · rw [lt_unique p q fun k => (m k).trans (n k).symm]
theorem closed_ok {S : Store} {css : List (List Int)} {ns : List Int} (hz : css.length ≤ 900) (hU : (ns ++ css.flatten).length ≤ 900) (hnd : ∀ c ∈ css, c.Nodup) (hns : ∀ k ∈ ns, -k ∉ ns) :
    (Bad css ns ∧ ∃ S', m_closed [csT css, clT ns] S = .ok .non S' ∧ ∀ i, i < S.length → S'[i]? = S[i]?) ∨
    (¬ Bad css ns ∧ ∃ (js : List Int) (es : List D) (p : Nat) (S' : Store), m_closed [csT css, clT ns] S = .ok (.ref p) S' ∧ S'[p]? = some (.dic (js.map Sum.inl) es) ∧ js.Nodup ∧ (∀ k, k ∈ js ↔ Fc css ns k) ∧ ∀ i, i < S.length → S'[i]? = S[i]?) := by
  obtain ⟨ks, ds, k1, k2, k3, _, k5⟩ := keys_of (me := mVar 1) (a0 := some (csT css)) (a1 := some (clT ns)) (a2 := none) (a3 := none) (a4 := none) (S := S) (d := clT ns) (b := true) (ms := ns) (by simp only [e_fnRun, e_bnd, e_bndS, e_seq, e_if, e_ret, e_retN, e_set, e_expr, e_raise, e_nil, e_par, e_asg, e_sub, e_args0, e_args1, e_rt, e_some, e_var, e_k, e_call, e_un, e_op, e_test, e_boolD, e_bAnd, e_bOr, e_bNot, e_mAnd, e_mOr, e_mNot, e_mIf, e_chain, e_tup, e_lst, e_own, e_isN, e_notN, e_part, e_noPart, e_intD, e_sl, e_seqM, e_its, e_tupM, e_lstM, e_yes, e_el, e_gtN, e_gtNil, e_gtCons, e_gtTup, e_addI, e_subI, e_ltI, e_leI, e_gtI, e_geI, e_negI, e_lenT, e_lenL, e_tupT, e_tupL, e_lstT, e_slT, e_slL, e_ix0, e_ix1, e_ix2, e_il0, e_il1, e_il2, D.isNon, List.map_cons, List.map_nil, List.cons_append, List.nil_append, List.length_cons, List.length_nil, Nat.reduceAdd, Nat.reduceSub, List.replicate_succ, List.replicate_zero, List.set_cons_zero, List.set_cons_succ, List.getElem?_cons_zero, List.getElem?_cons_succ, Option.join_some, wipeE, if_true, if_false, reduceIte, Bool.false_eq_true, Bool.not_true, Bool.not_false]) rfl
  let S1 : Store := S ++ [.dic (ks.map Sum.inl) ds]
  have hS1 : S1[S.length]? = some (.dic (ks.map Sum.inl) ds) := by
    show (S ++ [_])[S.length]? = _
    rw [List.getElem?_append_right (Nat.le_refl _), Nat.sub_self]; rfl
  have o1 : ∀ i, i < S.length → S1[i]? = S[i]? := fun i hi => List.getElem?_append_left hi
  have l1 : S1.length = S.length + 1 := by simp [S1]
  -- the loop
  have lp : ∃ (x3 : D) (S2 : Store) (r : RS), m_forced_once [csT css, .ref S.length] S1 = .ok x3 S2 ∧ sWhile clC clB [some (csT css), some (clT ns), some (.ref S.length), some x3, none] S2 = r ∧ ClEnd css ns S.length S (some (clT ns)) r := by
    have fin : ∀ (x3 : D) (S2 : Store), (∀ i, i < S1.length → S2[i]? = S1[i]?) → ((onceGo ks css = none ∧ x3 = .non) ∨ ∃ ms q, onceGo ks css = some ms ∧ x3 = .ref q ∧ S2[q]? = some (.lst (ms.map .int)) ∧ S.length < q) →
        ∃ r, sWhile clC clB [some (csT css), some (clT ns), some (.ref S.length), some x3, none] S2 = r ∧ ClEnd css ns S.length S (some (clT ns)) r := fun x3 S2 h2 hx => by
      obtain ⟨n, r, w1, w2⟩ := cl_loop (S0 := S) (lits := some (clT ns)) (p := S.length) hz hU hnd _ ks ds x3 none S2 (Nat.le_refl _) (by rw [h2 _ (by omega)]; exact hS1) k1 k3 (fun k hk => (k2 k).mpr hk)
        (fun k hk => ⟨.base ((k2 k).mp hk), List.mem_append_left _ ((k2 k).mp hk)⟩) (fun k hk hk2 => hns k ((k2 k).mp hk) ((k2 _).mp hk2)) (fun i hi => by rw [h2 i (by omega)]; exact o1 i hi) hx
      refine ⟨r, sWhile_of w1 ?_, w2⟩
      rcases w2 with ⟨_, S', e, _⟩ | ⟨_, x4, S', e, _⟩ | ⟨_, js, es, q, x4, S', e, _⟩ <;> (rw [e]; intro z; cases z)
    rcases forced_once_ok (css := css) hS1 hz with ⟨f1, S2, f2, f3⟩ | ⟨ms, S2, q, f1, f2, f3, f4, f5⟩
    · obtain ⟨r, w⟩ := fin .non S2 f3 (.inl ⟨f1, rfl⟩)
      exact ⟨.non, S2, r, f2, w⟩
    · obtain ⟨r, w⟩ := fin (.ref q) S2 f5 (.inr ⟨ms, q, f1, rfl, f3, by omega⟩)
      exact ⟨.ref q, S2, r, f2, w⟩
  obtain ⟨x3, S2, r, f2, w1, w2⟩ := lp
  unfold clC clB at w1
  rcases w2 with ⟨b, S', rfl, h⟩ | ⟨b, x4, S', rfl, h⟩ | ⟨b, js, es, q, x4, S', rfl, h1, h2, h3, h⟩
  · refine .inl ⟨b, S', ?_, h⟩
    unfold m_closed
    simp only [e_fnRun, e_bnd, e_bndS, e_seq, e_if, e_ret, e_retN, e_set, e_expr, e_raise, e_nil, e_par, e_asg, e_sub, e_args0, e_args1, e_rt, e_some, e_var, e_k, e_call, e_un, e_op, e_test, e_boolD, e_bAnd, e_bOr, e_bNot, e_mAnd, e_mOr, e_mNot, e_mIf, e_chain, e_tup, e_lst, e_own, e_isN, e_notN, e_part, e_noPart, e_intD, e_sl, e_seqM, e_its, e_tupM, e_lstM, e_yes, e_el, e_gtN, e_gtNil, e_gtCons, e_gtTup, e_addI, e_subI, e_ltI, e_leI, e_gtI, e_geI, e_negI, e_lenT, e_lenL, e_tupT, e_tupL, e_lstT, e_slT, e_slL, e_ix0, e_ix1, e_ix2, e_il0, e_il1, e_il2, D.isNon, List.map_cons, List.map_nil, List.cons_append, List.nil_append, List.length_cons, List.length_nil, Nat.reduceAdd, Nat.reduceSub, List.replicate_succ, List.replicate_zero, List.set_cons_zero, List.set_cons_succ, List.getElem?_cons_zero, List.getElem?_cons_succ, Option.join_some, wipeE, if_true, if_false, reduceIte, Bool.false_eq_true, Bool.not_true, Bool.not_false, k5]
    rw [show S ++ [Ob.dic (ks.map Sum.inl) ds] = S1 from rfl]
    simp only [e_fnRun, e_bnd, e_bndS, e_seq, e_if, e_ret, e_retN, e_set, e_expr, e_raise, e_nil, e_par, e_asg, e_sub, e_args0, e_args1, e_rt, e_some, e_var, e_k, e_call, e_un, e_op, e_test, e_boolD, e_bAnd, e_bOr, e_bNot, e_mAnd, e_mOr, e_mNot, e_mIf, e_chain, e_tup, e_lst, e_own, e_isN, e_notN, e_part, e_noPart, e_intD, e_sl, e_seqM, e_its, e_tupM, e_lstM, e_yes, e_el, e_gtN, e_gtNil, e_gtCons, e_gtTup, e_addI, e_subI, e_ltI, e_leI, e_gtI, e_geI, e_negI, e_lenT, e_lenL, e_tupT, e_tupL, e_lstT, e_slT, e_slL, e_ix0, e_ix1, e_ix2, e_il0, e_il1, e_il2, D.isNon, List.map_cons, List.map_nil, List.cons_append, List.nil_append, List.length_cons, List.length_nil, Nat.reduceAdd, Nat.reduceSub, List.replicate_succ, List.replicate_zero, List.set_cons_zero, List.set_cons_succ, List.getElem?_cons_zero, List.getElem?_cons_succ, Option.join_some, wipeE, if_true, if_false, reduceIte, Bool.false_eq_true, Bool.not_true, Bool.not_false, f2]
    rw [w1]
  · refine .inl ⟨b, S', ?_, h⟩
    unfold m_closed
    simp only [e_fnRun, e_bnd, e_bndS, e_seq, e_if, e_ret, e_retN, e_set, e_expr, e_raise, e_nil, e_par, e_asg, e_sub, e_args0, e_args1, e_rt, e_some, e_var, e_k, e_call, e_un, e_op, e_test, e_boolD, e_bAnd, e_bOr, e_bNot, e_mAnd, e_mOr, e_mNot, e_mIf, e_chain, e_tup, e_lst, e_own, e_isN, e_notN, e_part, e_noPart, e_intD, e_sl, e_seqM, e_its, e_tupM, e_lstM, e_yes, e_el, e_gtN, e_gtNil, e_gtCons, e_gtTup, e_addI, e_subI, e_ltI, e_leI, e_gtI, e_geI, e_negI, e_lenT, e_lenL, e_tupT, e_tupL, e_lstT, e_slT, e_slL, e_ix0, e_ix1, e_ix2, e_il0, e_il1, e_il2, D.isNon, List.map_cons, List.map_nil, List.cons_append, List.nil_append, List.length_cons, List.length_nil, Nat.reduceAdd, Nat.reduceSub, List.replicate_succ, List.replicate_zero, List.set_cons_zero, List.set_cons_succ, List.getElem?_cons_zero, List.getElem?_cons_succ, Option.join_some, wipeE, if_true, if_false, reduceIte, Bool.false_eq_true, Bool.not_true, Bool.not_false, k5]
    rw [show S ++ [Ob.dic (ks.map Sum.inl) ds] = S1 from rfl]
    simp only [e_fnRun, e_bnd, e_bndS, e_seq, e_if, e_ret, e_retN, e_set, e_expr, e_raise, e_nil, e_par, e_asg, e_sub, e_args0, e_args1, e_rt, e_some, e_var, e_k, e_call, e_un, e_op, e_test, e_boolD, e_bAnd, e_bOr, e_bNot, e_mAnd, e_mOr, e_mNot, e_mIf, e_chain, e_tup, e_lst, e_own, e_isN, e_notN, e_part, e_noPart, e_intD, e_sl, e_seqM, e_its, e_tupM, e_lstM, e_yes, e_el, e_gtN, e_gtNil, e_gtCons, e_gtTup, e_addI, e_subI, e_ltI, e_leI, e_gtI, e_geI, e_negI, e_lenT, e_lenL, e_tupT, e_tupL, e_lstT, e_slT, e_slL, e_ix0, e_ix1, e_ix2, e_il0, e_il1, e_il2, D.isNon, List.map_cons, List.map_nil, List.cons_append, List.nil_append, List.length_cons, List.length_nil, Nat.reduceAdd, Nat.reduceSub, List.replicate_succ, List.replicate_zero, List.set_cons_zero, List.set_cons_succ, List.getElem?_cons_zero, List.getElem?_cons_succ, Option.join_some, wipeE, if_true, if_false, reduceIte, Bool.false_eq_true, Bool.not_true, Bool.not_false, f2]
    rw [w1]
    simp only [e_fnRun, e_bnd, e_bndS, e_seq, e_if, e_ret, e_retN, e_set, e_expr, e_raise, e_nil, e_par, e_asg, e_sub, e_args0, e_args1, e_rt, e_some, e_var, e_k, e_call, e_un, e_op, e_test, e_boolD, e_bAnd, e_bOr, e_bNot, e_mAnd, e_mOr, e_mNot, e_mIf, e_chain, e_tup, e_lst, e_own, e_isN, e_notN, e_part, e_noPart, e_intD, e_sl, e_seqM, e_its, e_tupM, e_lstM, e_yes, e_el, e_gtN, e_gtNil, e_gtCons, e_gtTup, e_addI, e_subI, e_ltI, e_leI, e_gtI, e_geI, e_negI, e_lenT, e_lenL, e_tupT, e_tupL, e_lstT, e_slT, e_slL, e_ix0, e_ix1, e_ix2, e_il0, e_il1, e_il2, D.isNon, List.map_cons, List.map_nil, List.cons_append, List.nil_append, List.length_cons, List.length_nil, Nat.reduceAdd, Nat.reduceSub, List.replicate_succ, List.replicate_zero, List.set_cons_zero, List.set_cons_succ, List.getElem?_cons_zero, List.getElem?_cons_succ, Option.join_some, wipeE, if_true, if_false, reduceIte, Bool.false_eq_true, Bool.not_true, Bool.not_false]
  · refine .inr ⟨b, js, es, S.length, S', ?_, h1, h2, h3, h⟩
    unfold m_closed
    simp only [e_fnRun, e_bnd, e_bndS, e_seq, e_if, e_ret, e_retN, e_set, e_expr, e_raise, e_nil, e_par, e_asg, e_sub, e_args0, e_args1, e_rt, e_some, e_var, e_k, e_call, e_un, e_op, e_test, e_boolD, e_bAnd, e_bOr, e_bNot, e_mAnd, e_mOr, e_mNot, e_mIf, e_chain, e_tup, e_lst, e_own, e_isN, e_notN, e_part, e_noPart, e_intD, e_sl, e_seqM, e_its, e_tupM, e_lstM, e_yes, e_el, e_gtN, e_gtNil, e_gtCons, e_gtTup, e_addI, e_subI, e_ltI, e_leI, e_gtI, e_geI, e_negI, e_lenT, e_lenL, e_tupT, e_tupL, e_lstT, e_slT, e_slL, e_ix0, e_ix1, e_ix2, e_il0, e_il1, e_il2, D.isNon, List.map_cons, List.map_nil, List.cons_append, List.nil_append, List.length_cons, List.length_nil, Nat.reduceAdd, Nat.reduceSub, List.replicate_succ, List.replicate_zero, List.set_cons_zero, List.set_cons_succ, List.getElem?_cons_zero, List.getElem?_cons_succ, Option.join_some, wipeE, if_true, if_false, reduceIte, Bool.false_eq_true, Bool.not_true, Bool.not_false, k5]
    rw [show S ++ [Ob.dic (ks.map Sum.inl) ds] = S1 from rfl]
    simp only [e_fnRun, e_bnd, e_bndS, e_seq, e_if, e_ret, e_retN, e_set, e_expr, e_raise, e_nil, e_par, e_asg, e_sub, e_args0, e_args1, e_rt, e_some, e_var, e_k, e_call, e_un, e_op, e_test, e_boolD, e_bAnd, e_bOr, e_bNot, e_mAnd, e_mOr, e_mNot, e_mIf, e_chain, e_tup, e_lst, e_own, e_isN, e_notN, e_part, e_noPart, e_intD, e_sl, e_seqM, e_its, e_tupM, e_lstM, e_yes, e_el, e_gtN, e_gtNil, e_gtCons, e_gtTup, e_addI, e_subI, e_ltI, e_leI, e_gtI, e_geI, e_negI, e_lenT, e_lenL, e_tupT, e_tupL, e_lstT, e_slT, e_slL, e_ix0, e_ix1, e_ix2, e_il0, e_il1, e_il2, D.isNon, List.map_cons, List.map_nil, List.cons_append, List.nil_append, List.length_cons, List.length_nil, Nat.reduceAdd, Nat.reduceSub, List.replicate_succ, List.replicate_zero, List.set_cons_zero, List.set_cons_succ, List.getElem?_cons_zero, List.getElem?_cons_succ, Option.join_some, wipeE, if_true, if_false, reduceIte, Bool.false_eq_true, Bool.not_true, Bool.not_false, f2]
    rw [w1]
    simp only [e_fnRun, e_bnd, e_bndS, e_seq, e_if, e_ret, e_retN, e_set, e_expr, e_raise, e_nil, e_par, e_asg, e_sub, e_args0, e_args1, e_rt, e_some, e_var, e_k, e_call, e_un, e_op, e_test, e_boolD, e_bAnd, e_bOr, e_bNot, e_mAnd, e_mOr, e_mNot, e_mIf, e_chain, e_tup, e_lst, e_own, e_isN, e_notN, e_part, e_noPart, e_intD, e_sl, e_seqM, e_its, e_tupM, e_lstM, e_yes, e_el, e_gtN, e_gtNil, e_gtCons, e_gtTup, e_addI, e_subI, e_ltI, e_leI, e_gtI, e_geI, e_negI, e_lenT, e_lenL, e_tupT, e_tupL, e_lstT, e_slT, e_slL, e_ix0, e_ix1, e_ix2, e_il0, e_il1, e_il2, D.isNon, List.map_cons, List.map_nil, List.cons_append, List.nil_append, List.length_cons, List.length_nil, Nat.reduceAdd, Nat.reduceSub, List.replicate_succ, List.replicate_zero, List.set_cons_zero, List.set_cons_succ, List.getElem?_cons_zero, List.getElem?_cons_succ, Option.join_some, wipeE, if_true, if_false, reduceIte, Bool.false_eq_true, Bool.not_true, Bool.not_false]
end K14

set_option Elab.async false
set_option maxRecDepth 100000
set_option linter.all false
set_option maxHeartbeats 4000000
namespace K14
open PySem hiding ret
open Mir
open Classical

theorem filterMap_if (c : Int → Bool) (q : Int → D) : ∀ l : List Int, l.filterMap (fun k => if c k = true then some (q k) else none) = (l.filter c).map q
  | [] => rfl
  | k :: l => by
    by_cases h : c k = true
    · rw [List.filterMap_cons_some (b := q k) (by rw [if_pos h]), List.filter_cons_of_pos h, List.map_cons, filterMap_if c q l]
    · rw [List.filterMap_cons_none (by rw [if_neg h]), List.filter_cons_of_neg h, filterMap_if c q l]
theorem nin_ref {S : Store} {p : Nat} {fs : List Int} {k : Int} (e : S[p]? = some (.lst (fs.map .int))) : ninD (.int k) (.ref p) S = .ok (.bl (!decide (k ∈ fs))) S := by
  simp only [ninD, seqOf, e, if_pos (show flatD (.int k) = true ∧ (fs.map D.int).all flatD = true from ⟨rfl, flat_ints fs⟩), inF_int]
theorem in_ref {S : Store} {p : Nat} {fs : List Int} {k : Int} (e : S[p]? = some (.lst (fs.map .int))) : inD (.int k) (.ref p) S = .ok (.bl (decide (k ∈ fs))) S := by
  simp only [inD, seqOf, e, if_pos (show flatD (.int k) = true ∧ (fs.map D.int).all flatD = true from ⟨rfl, flat_ints fs⟩), inF_int]
noncomputable def lfA : MS := (sSeq (sSet 5 (mLc [6] (mSeq (mVar 4)) (gtN 6) (mTest (mOp ninD (mUn negD (mVar 6)) (mVar 2))) (mVar 6) resF))
  (sSeq (sIf (mTest (mOp eqD (mVar 5) (mLst []))) (sRet (mK .non)) sNil)
  (sIf (bAnd (mTest (mOp eqD (mCall lenD [(mVar 5)]) (mK (.int 1)))) (mTest (mOp ninD (mOp ixD (mVar 5) (mK (.int 0))) (mVar 2)))) (sSeq (sExpr (mMtL appD (mVar 2) [(mOp ixD (mVar 5) (mK (.int 0)))]))
  (sSet 3 (mK (.bl true)))) sNil)))
/-- found, as it stands -/
structure Fs (css : List (List Int)) (ns : List Int) (p : Nat) (S0 S : Store) (fs : List Int) : Prop where
  at_ : S[p]? = some (.lst (fs.map .int))
  nd : fs.Nodup
  sub : ∀ k ∈ ns, k ∈ fs
  fc : ∀ k ∈ fs, Fc css ns k ∧ k ∈ ns ++ css.flatten
  old : ∀ i, i ≠ p → S[i]? = S0[i]?
section
variable {css : List (List Int)} {ns : List Int} {p : Nat} {S0 S : Store} {fs : List Int} {x0 x1 x3 x4 x5 x6 x7 : Option D}
theorem Fs.len (F : Fs css ns p S0 S fs) (hU : (ns ++ css.flatten).length ≤ 900) : fs.length ≤ 900 := Nat.le_trans (nodup_len fs _ F.nd fun k hk => (F.fc k hk).2) hU
theorem Fs.app (F : Fs css ns p S0 S fs) (hU : (ns ++ css.flatten).length ≤ 900) {l : Int} (hl : l ∉ fs) (h : Fc css ns l ∧ l ∈ ns ++ css.flatten) : appD (.ref p) [.int l] S = .ok .non (S.set p (.lst (fs.map .int ++ [.int l]))) ∧ Fs css ns p S0 (S.set p (.lst (fs.map .int ++ [.int l]))) (fs ++ [l]) := by
  refine ⟨app_ok F.at_ (by rw [List.length_map]; have := F.len hU; omega), ⟨by rw [set_at F.at_]; simp, ?_, fun k hk => List.mem_append_left _ (F.sub k hk), fun k hk => ?_, fun i hi => by rw [set_off hi]; exact F.old i hi⟩⟩
  · refine List.nodup_append.mpr ⟨F.nd, by simp, fun a ha b hb => ?_⟩
    simp at hb
    subst hb
    exact fun e => hl (e ▸ ha)
  · rcases List.mem_append.mp hk with z | z
    · exact F.fc k z
    · simp at z; subst z; exact h
theorem lfA_ok {c : List Int} (F : Fs css ns p S0 S fs) (hU : (ns ++ css.flatten).length ≤ 900) (hc : c ∈ css) :
    (leftOf fs c = [] ∧ lfA [x0, x1, some (.ref p), x3, some (clT c), x5, x6, x7] S = .rt .non S) ∨
    (leftOf fs c ≠ [] ∧ unitOf fs c = none ∧ ∃ y5, lfA [x0, x1, some (.ref p), x3, some (clT c), x5, x6, x7] S = .nx [x0, x1, some (.ref p), x3, some (clT c), y5, x6, x7] S) ∨
    (∃ l y5 S', l ∉ fs ∧ lfA [x0, x1, some (.ref p), x3, some (clT c), x5, x6, x7] S = .nx [x0, x1, some (.ref p), some (.bl true), some (clT c), y5, x6, x7] S' ∧ Fs css ns p S0 S' (fs ++ [l])) := by
  have h1 : mLc [6] (mSeq (mVar 4)) (gtN 6) (mTest (mOp ninD (mUn negD (mVar 6)) (mVar 2))) (mVar 6) resF [x0, x1, some (.ref p), x3, some (clT c), x5, x6, x7] S = .ok (.lst ((leftOf fs c).map .int)) S := by
    rw [mLcT_intsF (ns := c) (q := fun k => if (!decide (-k ∈ fs)) = true then some (D.int k) else none) (by simp only [e_fnRun, e_bnd, e_bndS, e_seq, e_if, e_ret, e_retN, e_set, e_expr, e_raise, e_nil, e_par, e_asg, e_sub, e_args0, e_args1, e_rt, e_some, e_var, e_k, e_call, e_un, e_op, e_test, e_boolD, e_bAnd, e_bOr, e_bNot, e_mAnd, e_mOr, e_mNot, e_mIf, e_chain, e_tup, e_lst, e_own, e_isN, e_notN, e_part, e_noPart, e_intD, e_sl, e_seqM, e_its, e_tupM, e_lstM, e_yes, e_el, e_gtN, e_gtNil, e_gtCons, e_gtTup, e_addI, e_subI, e_ltI, e_leI, e_gtI, e_geI, e_negI, e_lenT, e_lenL, e_tupT, e_tupL, e_lstT, e_slT, e_slL, e_ix0, e_ix1, e_ix2, e_il0, e_il1, e_il2, D.isNon, List.map_cons, List.map_nil, List.cons_append, List.nil_append, List.length_cons, List.length_nil, Nat.reduceAdd, Nat.reduceSub, List.replicate_succ, List.replicate_zero, List.set_cons_zero, List.set_cons_succ, List.getElem?_cons_zero, List.getElem?_cons_succ, Option.join_some, wipeE, if_true, if_false, reduceIte, Bool.false_eq_true, Bool.not_true, Bool.not_false]) fun k hk => by
      simp only [e_fnRun, e_bnd, e_bndS, e_seq, e_if, e_ret, e_retN, e_set, e_expr, e_raise, e_nil, e_par, e_asg, e_sub, e_args0, e_args1, e_rt, e_some, e_var, e_k, e_call, e_un, e_op, e_test, e_boolD, e_bAnd, e_bOr, e_bNot, e_mAnd, e_mOr, e_mNot, e_mIf, e_chain, e_tup, e_lst, e_own, e_isN, e_notN, e_part, e_noPart, e_intD, e_sl, e_seqM, e_its, e_tupM, e_lstM, e_yes, e_el, e_gtN, e_gtNil, e_gtCons, e_gtTup, e_addI, e_subI, e_ltI, e_leI, e_gtI, e_geI, e_negI, e_lenT, e_lenL, e_tupT, e_tupL, e_lstT, e_slT, e_slL, e_ix0, e_ix1, e_ix2, e_il0, e_il1, e_il2, D.isNon, List.map_cons, List.map_nil, List.cons_append, List.nil_append, List.length_cons, List.length_nil, Nat.reduceAdd, Nat.reduceSub, List.replicate_succ, List.replicate_zero, List.set_cons_zero, List.set_cons_succ, List.getElem?_cons_zero, List.getElem?_cons_succ, Option.join_some, wipeE, if_true, if_false, reduceIte, Bool.false_eq_true, Bool.not_true, Bool.not_false, nin_ref F.at_]
      by_cases hh : -k ∈ fs <;> simp only [e_fnRun, e_bnd, e_bndS, e_seq, e_if, e_ret, e_retN, e_set, e_expr, e_raise, e_nil, e_par, e_asg, e_sub, e_args0, e_args1, e_rt, e_some, e_var, e_k, e_call, e_un, e_op, e_test, e_boolD, e_bAnd, e_bOr, e_bNot, e_mAnd, e_mOr, e_mNot, e_mIf, e_chain, e_tup, e_lst, e_own, e_isN, e_notN, e_part, e_noPart, e_intD, e_sl, e_seqM, e_its, e_tupM, e_lstM, e_yes, e_el, e_gtN, e_gtNil, e_gtCons, e_gtTup, e_addI, e_subI, e_ltI, e_leI, e_gtI, e_geI, e_negI, e_lenT, e_lenL, e_tupT, e_tupL, e_lstT, e_slT, e_slL, e_ix0, e_ix1, e_ix2, e_il0, e_il1, e_il2, D.isNon, List.map_cons, List.map_nil, List.cons_append, List.nil_append, List.length_cons, List.length_nil, Nat.reduceAdd, Nat.reduceSub, List.replicate_succ, List.replicate_zero, List.set_cons_zero, List.set_cons_succ, List.getElem?_cons_zero, List.getElem?_cons_succ, Option.join_some, wipeE, if_true, if_false, reduceIte, Bool.false_eq_true, Bool.not_true, Bool.not_false, hh, decide_true, decide_false]]
    rw [filterMap_int]
    rfl
  unfold lfA
  cases hl : leftOf fs c with
  | nil =>
    rw [hl] at h1
    refine .inl ⟨rfl, ?_⟩
    have := eq_lst0 [] S
    simp only [List.map_nil] at this h1
    simp only [e_fnRun, e_bnd, e_bndS, e_seq, e_if, e_ret, e_retN, e_set, e_expr, e_raise, e_nil, e_par, e_asg, e_sub, e_args0, e_args1, e_rt, e_some, e_var, e_k, e_call, e_un, e_op, e_test, e_boolD, e_bAnd, e_bOr, e_bNot, e_mAnd, e_mOr, e_mNot, e_mIf, e_chain, e_tup, e_lst, e_own, e_isN, e_notN, e_part, e_noPart, e_intD, e_sl, e_seqM, e_its, e_tupM, e_lstM, e_yes, e_el, e_gtN, e_gtNil, e_gtCons, e_gtTup, e_addI, e_subI, e_ltI, e_leI, e_gtI, e_geI, e_negI, e_lenT, e_lenL, e_tupT, e_tupL, e_lstT, e_slT, e_slL, e_ix0, e_ix1, e_ix2, e_il0, e_il1, e_il2, D.isNon, List.map_cons, List.map_nil, List.cons_append, List.nil_append, List.length_cons, List.length_nil, Nat.reduceAdd, Nat.reduceSub, List.replicate_succ, List.replicate_zero, List.set_cons_zero, List.set_cons_succ, List.getElem?_cons_zero, List.getElem?_cons_succ, Option.join_some, wipeE, if_true, if_false, reduceIte, Bool.false_eq_true, Bool.not_true, Bool.not_false, h1, this, decide_true]
  | cons a r =>
    rw [hl] at h1
    have e0 := eq_lst0 (a :: r) S
    have e0' : decide (a :: r = []) = false := by simp
    rw [e0'] at e0
    cases r with
    | nil =>
      have e1 : (((0 + 1 : Nat)) : Int) = 1 := rfl
      simp only [List.map_cons, List.map_nil] at h1 e0
      by_cases hj : a ∈ fs
      · refine .inr (.inl ⟨by simp, by unfold unitOf; rw [hl]; simp [hj], some (.lst [.int a]), ?_⟩)
        simp only [e_fnRun, e_bnd, e_bndS, e_seq, e_if, e_ret, e_retN, e_set, e_expr, e_raise, e_nil, e_par, e_asg, e_sub, e_args0, e_args1, e_rt, e_some, e_var, e_k, e_call, e_un, e_op, e_test, e_boolD, e_bAnd, e_bOr, e_bNot, e_mAnd, e_mOr, e_mNot, e_mIf, e_chain, e_tup, e_lst, e_own, e_isN, e_notN, e_part, e_noPart, e_intD, e_sl, e_seqM, e_its, e_tupM, e_lstM, e_yes, e_el, e_gtN, e_gtNil, e_gtCons, e_gtTup, e_addI, e_subI, e_ltI, e_leI, e_gtI, e_geI, e_negI, e_lenT, e_lenL, e_tupT, e_tupL, e_lstT, e_slT, e_slL, e_ix0, e_ix1, e_ix2, e_il0, e_il1, e_il2, D.isNon, List.map_cons, List.map_nil, List.cons_append, List.nil_append, List.length_cons, List.length_nil, Nat.reduceAdd, Nat.reduceSub, List.replicate_succ, List.replicate_zero, List.set_cons_zero, List.set_cons_succ, List.getElem?_cons_zero, List.getElem?_cons_succ, Option.join_some, wipeE, if_true, if_false, reduceIte, Bool.false_eq_true, Bool.not_true, Bool.not_false, h1, e0, eq_int, e1, decide_true, nin_ref F.at_, hj]
      · have hu : unitOf fs c = some a := by unfold unitOf; rw [hl]; simp [hj]
        obtain ⟨f1, f2⟩ := unit_fc hc (fun k hk => (F.fc k hk).1) hu
        have ha : a ∈ c := by
          have : a ∈ leftOf fs c := by rw [hl]; exact List.mem_cons_self
          exact (List.mem_filter.mp this).1
        obtain ⟨ap, F'⟩ := F.app hU hj ⟨f1, List.mem_append_right _ (List.mem_flatten.mpr ⟨c, hc, ha⟩)⟩
        refine .inr (.inr ⟨a, some (.lst [.int a]), _, hj, ?_, F'⟩)
        simp only [e_fnRun, e_bnd, e_bndS, e_seq, e_if, e_ret, e_retN, e_set, e_expr, e_raise, e_nil, e_par, e_asg, e_sub, e_args0, e_args1, e_rt, e_some, e_var, e_k, e_call, e_un, e_op, e_test, e_boolD, e_bAnd, e_bOr, e_bNot, e_mAnd, e_mOr, e_mNot, e_mIf, e_chain, e_tup, e_lst, e_own, e_isN, e_notN, e_part, e_noPart, e_intD, e_sl, e_seqM, e_its, e_tupM, e_lstM, e_yes, e_el, e_gtN, e_gtNil, e_gtCons, e_gtTup, e_addI, e_subI, e_ltI, e_leI, e_gtI, e_geI, e_negI, e_lenT, e_lenL, e_tupT, e_tupL, e_lstT, e_slT, e_slL, e_ix0, e_ix1, e_ix2, e_il0, e_il1, e_il2, D.isNon, List.map_cons, List.map_nil, List.cons_append, List.nil_append, List.length_cons, List.length_nil, Nat.reduceAdd, Nat.reduceSub, List.replicate_succ, List.replicate_zero, List.set_cons_zero, List.set_cons_succ, List.getElem?_cons_zero, List.getElem?_cons_succ, Option.join_some, wipeE, if_true, if_false, reduceIte, Bool.false_eq_true, Bool.not_true, Bool.not_false, h1, e0, eq_int, e1, decide_true, nin_ref F.at_, hj, decide_false, e_mt, lst_ref F.at_, ap]
    | cons b r =>
      have e1 : ¬ ((((r.length + 1 + 1 : Nat)) : Int) = 1) := by omega
      refine .inr (.inl ⟨by simp, by unfold unitOf; rw [hl], some (.lst ((a :: b :: r).map .int)), ?_⟩)
      simp only [List.map_cons] at h1 e0
      simp only [e_fnRun, e_bnd, e_bndS, e_seq, e_if, e_ret, e_retN, e_set, e_expr, e_raise, e_nil, e_par, e_asg, e_sub, e_args0, e_args1, e_rt, e_some, e_var, e_k, e_call, e_un, e_op, e_test, e_boolD, e_bAnd, e_bOr, e_bNot, e_mAnd, e_mOr, e_mNot, e_mIf, e_chain, e_tup, e_lst, e_own, e_isN, e_notN, e_part, e_noPart, e_intD, e_sl, e_seqM, e_its, e_tupM, e_lstM, e_yes, e_el, e_gtN, e_gtNil, e_gtCons, e_gtTup, e_addI, e_subI, e_ltI, e_leI, e_gtI, e_geI, e_negI, e_lenT, e_lenL, e_tupT, e_tupL, e_lstT, e_slT, e_slL, e_ix0, e_ix1, e_ix2, e_il0, e_il1, e_il2, D.isNon, List.map_cons, List.map_nil, List.cons_append, List.nil_append, List.length_cons, List.length_nil, Nat.reduceAdd, Nat.reduceSub, List.replicate_succ, List.replicate_zero, List.set_cons_zero, List.set_cons_succ, List.getElem?_cons_zero, List.getElem?_cons_succ, Option.join_some, wipeE, if_true, if_false, reduceIte, Bool.false_eq_true, Bool.not_true, Bool.not_false, h1, e0, eq_int, List.length_map, e1, decide_false]
/-- the first walk over the clauses -/
theorem lf_loopA {g : Store → Prop} (hg : ∀ S, g S) (hU : (ns ++ css.flatten).length ≤ 900) : ∀ (cs : List (List Int)) (S : Store) (fs : List Int) (b : Bool) (x4 x5 : Option D), (∀ c ∈ cs, c ∈ css) → Fs css ns p S0 S fs →
    (∃ S', forD g (gtN 4) lfA (cs.map clT) [x0, x1, some (.ref p), some (.bl b), x4, x5, x6, x7] S = .rt .non S' ∧ Bad css ns ∧ ∀ i, i ≠ p → S'[i]? = S0[i]?) ∨
    (∃ y4 y5 S', forD g (gtN 4) lfA (cs.map clT) [x0, x1, some (.ref p), some (.bl b), x4, x5, x6, x7] S = .nx [x0, x1, some (.ref p), some (.bl b), y4, y5, x6, x7] S' ∧ Fs css ns p S0 S' fs ∧ (∀ c ∈ cs, leftOf fs c ≠ [] ∧ unitOf fs c = none)) ∨
    (∃ y4 y5 S' fs' l, forD g (gtN 4) lfA (cs.map clT) [x0, x1, some (.ref p), some (.bl b), x4, x5, x6, x7] S = .nx [x0, x1, some (.ref p), some (.bl true), y4, y5, x6, x7] S' ∧ Fs css ns p S0 S' fs' ∧ l ∉ fs ∧ l ∈ fs' ∧ ∀ k ∈ fs, k ∈ fs')
  | [], S, fs, b, x4, x5, _, F => .inr (.inl ⟨x4, x5, S, by simp only [List.map_nil, forD, if_pos (hg S)], F, fun _ h => by cases h⟩)
  | c :: cs, S, fs, b, x4, x5, hcs, F => by
    have hc := hcs c List.mem_cons_self
    have hcs' : ∀ d ∈ cs, d ∈ css := fun d hd => hcs d (List.mem_cons_of_mem _ hd)
    rcases lfA_ok (x0 := x0) (x1 := x1) (x3 := some (.bl b)) (x5 := x5) (x6 := x6) (x7 := x7) F hU hc with ⟨h1, h2⟩ | ⟨h1, h2, y5, h3⟩ | ⟨l, y5, S1, h1, h2, F1⟩
    · refine .inl ⟨S, ?_, ?_, F.old⟩
      · simp only [List.map_cons, forD, if_pos (hg S)]
        simp only [e_fnRun, e_bnd, e_bndS, e_seq, e_if, e_ret, e_retN, e_set, e_expr, e_raise, e_nil, e_par, e_asg, e_sub, e_args0, e_args1, e_rt, e_some, e_var, e_k, e_call, e_un, e_op, e_test, e_boolD, e_bAnd, e_bOr, e_bNot, e_mAnd, e_mOr, e_mNot, e_mIf, e_chain, e_tup, e_lst, e_own, e_isN, e_notN, e_part, e_noPart, e_intD, e_sl, e_seqM, e_its, e_tupM, e_lstM, e_yes, e_el, e_gtN, e_gtNil, e_gtCons, e_gtTup, e_addI, e_subI, e_ltI, e_leI, e_gtI, e_geI, e_negI, e_lenT, e_lenL, e_tupT, e_tupL, e_lstT, e_slT, e_slL, e_ix0, e_ix1, e_ix2, e_il0, e_il1, e_il2, D.isNon, List.map_cons, List.map_nil, List.cons_append, List.nil_append, List.length_cons, List.length_nil, Nat.reduceAdd, Nat.reduceSub, List.replicate_succ, List.replicate_zero, List.set_cons_zero, List.set_cons_succ, List.getElem?_cons_zero, List.getElem?_cons_succ, Option.join_some, wipeE, if_true, if_false, reduceIte, Bool.false_eq_true, Bool.not_true, Bool.not_false]
        rw [h2]
      · have hk := left_nil.mp h1
        cases c with
        | nil => exact .inl hc
        | cons a r => exact .inr ⟨a, .step hc List.mem_cons_self fun o ho _ => (F.fc _ (hk o ho)).1, (F.fc _ (hk a List.mem_cons_self)).1⟩
    · have st : forD g (gtN 4) lfA ((c :: cs).map clT) [x0, x1, some (.ref p), some (.bl b), x4, x5, x6, x7] S = forD g (gtN 4) lfA (cs.map clT) [x0, x1, some (.ref p), some (.bl b), some (clT c), y5, x6, x7] S := by
        simp only [List.map_cons, forD, if_pos (hg S)]
        simp only [e_fnRun, e_bnd, e_bndS, e_seq, e_if, e_ret, e_retN, e_set, e_expr, e_raise, e_nil, e_par, e_asg, e_sub, e_args0, e_args1, e_rt, e_some, e_var, e_k, e_call, e_un, e_op, e_test, e_boolD, e_bAnd, e_bOr, e_bNot, e_mAnd, e_mOr, e_mNot, e_mIf, e_chain, e_tup, e_lst, e_own, e_isN, e_notN, e_part, e_noPart, e_intD, e_sl, e_seqM, e_its, e_tupM, e_lstM, e_yes, e_el, e_gtN, e_gtNil, e_gtCons, e_gtTup, e_addI, e_subI, e_ltI, e_leI, e_gtI, e_geI, e_negI, e_lenT, e_lenL, e_tupT, e_tupL, e_lstT, e_slT, e_slL, e_ix0, e_ix1, e_ix2, e_il0, e_il1, e_il2, D.isNon, List.map_cons, List.map_nil, List.cons_append, List.nil_append, List.length_cons, List.length_nil, Nat.reduceAdd, Nat.reduceSub, List.replicate_succ, List.replicate_zero, List.set_cons_zero, List.set_cons_succ, List.getElem?_cons_zero, List.getElem?_cons_succ, Option.join_some, wipeE, if_true, if_false, reduceIte, Bool.false_eq_true, Bool.not_true, Bool.not_false]
        rw [h3]
      rw [st]
      rcases lf_loopA hg hU cs S fs b (some (clT c)) y5 hcs' F with ⟨S', e, q⟩ | ⟨y4, z5, S', e, F', q⟩ | ⟨y4, z5, S', fs', l, e, F', q⟩
      · exact .inl ⟨S', e, q⟩
      · refine .inr (.inl ⟨y4, z5, S', e, F', fun d hd => ?_⟩)
        rcases List.mem_cons.mp hd with e | hd
        · subst e; exact ⟨h1, h2⟩
        · exact q d hd
      · exact .inr (.inr ⟨y4, z5, S', fs', l, e, F', q⟩)
    · have st : forD g (gtN 4) lfA ((c :: cs).map clT) [x0, x1, some (.ref p), some (.bl b), x4, x5, x6, x7] S = forD g (gtN 4) lfA (cs.map clT) [x0, x1, some (.ref p), some (.bl true), some (clT c), y5, x6, x7] S1 := by
        simp only [List.map_cons, forD, if_pos (hg S)]
        simp only [e_fnRun, e_bnd, e_bndS, e_seq, e_if, e_ret, e_retN, e_set, e_expr, e_raise, e_nil, e_par, e_asg, e_sub, e_args0, e_args1, e_rt, e_some, e_var, e_k, e_call, e_un, e_op, e_test, e_boolD, e_bAnd, e_bOr, e_bNot, e_mAnd, e_mOr, e_mNot, e_mIf, e_chain, e_tup, e_lst, e_own, e_isN, e_notN, e_part, e_noPart, e_intD, e_sl, e_seqM, e_its, e_tupM, e_lstM, e_yes, e_el, e_gtN, e_gtNil, e_gtCons, e_gtTup, e_addI, e_subI, e_ltI, e_leI, e_gtI, e_geI, e_negI, e_lenT, e_lenL, e_tupT, e_tupL, e_lstT, e_slT, e_slL, e_ix0, e_ix1, e_ix2, e_il0, e_il1, e_il2, D.isNon, List.map_cons, List.map_nil, List.cons_append, List.nil_append, List.length_cons, List.length_nil, Nat.reduceAdd, Nat.reduceSub, List.replicate_succ, List.replicate_zero, List.set_cons_zero, List.set_cons_succ, List.getElem?_cons_zero, List.getElem?_cons_succ, Option.join_some, wipeE, if_true, if_false, reduceIte, Bool.false_eq_true, Bool.not_true, Bool.not_false]
        rw [h2]
      rw [st]
      rcases lf_loopA hg hU cs S1 (fs ++ [l]) true (some (clT c)) y5 hcs' F1 with ⟨S', e, q⟩ | ⟨y4, z5, S', e, F', q⟩ | ⟨y4, z5, S', fs', m, e, F', q1, q2, q3⟩
      · exact .inl ⟨S', e, q⟩
      · exact .inr (.inr ⟨y4, z5, S', _, l, e, F', h1, by simp, fun k hk => List.mem_append_left _ hk⟩)
      · exact .inr (.inr ⟨y4, z5, S', fs', l, e, F', h1, q3 l (by simp), fun k hk => q3 k (List.mem_append_left _ hk)⟩)
/-- the second walk -/
noncomputable def lfC : MS := (sIf (bAnd (mTest (mOp ninD (mVar 6) (mVar 2))) (mTest (mCall allD [(mLc [7] (mSeq (mVar 4)) (gtN 7) (mTest (mOp neD (mVar 7) (mVar 6))) (mOp inD (mUn negD (mVar 7)) (mVar 2)) resF)]))) (sSeq (sExpr (mMtL appD (mVar 2) [(mVar 6)]))
  (sSet 3 (mK (.bl true)))) sNil)
theorem lfC_ok {c : List Int} {k : Int} (F : Fs css ns p S0 S fs) (hU : (ns ++ css.flatten).length ≤ 900) (hc : c ∈ css) (hk : k ∈ c) :
    (lfC [x0, x1, some (.ref p), x3, some (clT c), x5, some (.int k), x7] S = .nx [x0, x1, some (.ref p), x3, some (clT c), x5, some (.int k), x7] S) ∨
    (∃ l S', l ∉ fs ∧ lfC [x0, x1, some (.ref p), x3, some (clT c), x5, some (.int k), x7] S = .nx [x0, x1, some (.ref p), some (.bl true), some (clT c), x5, some (.int k), x7] S' ∧ Fs css ns p S0 S' (fs ++ [l])) := by
  have h1 : mLc [7] (mSeq (mVar 4)) (gtN 7) (mTest (mOp neD (mVar 7) (mVar 6))) (mOp inD (mUn negD (mVar 7)) (mVar 2)) resF [x0, x1, some (.ref p), x3, some (clT c), x5, some (.int k), x7] S = .ok (.lst (((c.filter fun o => !decide (o = k))).map fun o => .bl (decide (-o ∈ fs)))) S := by
    rw [mLcT_intsF (ns := c) (q := fun o => if (!decide (o = k)) = true then some (D.bl (decide (-o ∈ fs))) else none) (by simp only [e_fnRun, e_bnd, e_bndS, e_seq, e_if, e_ret, e_retN, e_set, e_expr, e_raise, e_nil, e_par, e_asg, e_sub, e_args0, e_args1, e_rt, e_some, e_var, e_k, e_call, e_un, e_op, e_test, e_boolD, e_bAnd, e_bOr, e_bNot, e_mAnd, e_mOr, e_mNot, e_mIf, e_chain, e_tup, e_lst, e_own, e_isN, e_notN, e_part, e_noPart, e_intD, e_sl, e_seqM, e_its, e_tupM, e_lstM, e_yes, e_el, e_gtN, e_gtNil, e_gtCons, e_gtTup, e_addI, e_subI, e_ltI, e_leI, e_gtI, e_geI, e_negI, e_lenT, e_lenL, e_tupT, e_tupL, e_lstT, e_slT, e_slL, e_ix0, e_ix1, e_ix2, e_il0, e_il1, e_il2, D.isNon, List.map_cons, List.map_nil, List.cons_append, List.nil_append, List.length_cons, List.length_nil, Nat.reduceAdd, Nat.reduceSub, List.replicate_succ, List.replicate_zero, List.set_cons_zero, List.set_cons_succ, List.getElem?_cons_zero, List.getElem?_cons_succ, Option.join_some, wipeE, if_true, if_false, reduceIte, Bool.false_eq_true, Bool.not_true, Bool.not_false]) fun o ho => by
      simp only [e_fnRun, e_bnd, e_bndS, e_seq, e_if, e_ret, e_retN, e_set, e_expr, e_raise, e_nil, e_par, e_asg, e_sub, e_args0, e_args1, e_rt, e_some, e_var, e_k, e_call, e_un, e_op, e_test, e_boolD, e_bAnd, e_bOr, e_bNot, e_mAnd, e_mOr, e_mNot, e_mIf, e_chain, e_tup, e_lst, e_own, e_isN, e_notN, e_part, e_noPart, e_intD, e_sl, e_seqM, e_its, e_tupM, e_lstM, e_yes, e_el, e_gtN, e_gtNil, e_gtCons, e_gtTup, e_addI, e_subI, e_ltI, e_leI, e_gtI, e_geI, e_negI, e_lenT, e_lenL, e_tupT, e_tupL, e_lstT, e_slT, e_slL, e_ix0, e_ix1, e_ix2, e_il0, e_il1, e_il2, D.isNon, List.map_cons, List.map_nil, List.cons_append, List.nil_append, List.length_cons, List.length_nil, Nat.reduceAdd, Nat.reduceSub, List.replicate_succ, List.replicate_zero, List.set_cons_zero, List.set_cons_succ, List.getElem?_cons_zero, List.getElem?_cons_succ, Option.join_some, wipeE, if_true, if_false, reduceIte, Bool.false_eq_true, Bool.not_true, Bool.not_false, ne_int]
      by_cases hh : o = k
      · simp only [e_fnRun, e_bnd, e_bndS, e_seq, e_if, e_ret, e_retN, e_set, e_expr, e_raise, e_nil, e_par, e_asg, e_sub, e_args0, e_args1, e_rt, e_some, e_var, e_k, e_call, e_un, e_op, e_test, e_boolD, e_bAnd, e_bOr, e_bNot, e_mAnd, e_mOr, e_mNot, e_mIf, e_chain, e_tup, e_lst, e_own, e_isN, e_notN, e_part, e_noPart, e_intD, e_sl, e_seqM, e_its, e_tupM, e_lstM, e_yes, e_el, e_gtN, e_gtNil, e_gtCons, e_gtTup, e_addI, e_subI, e_ltI, e_leI, e_gtI, e_geI, e_negI, e_lenT, e_lenL, e_tupT, e_tupL, e_lstT, e_slT, e_slL, e_ix0, e_ix1, e_ix2, e_il0, e_il1, e_il2, D.isNon, List.map_cons, List.map_nil, List.cons_append, List.nil_append, List.length_cons, List.length_nil, Nat.reduceAdd, Nat.reduceSub, List.replicate_succ, List.replicate_zero, List.set_cons_zero, List.set_cons_succ, List.getElem?_cons_zero, List.getElem?_cons_succ, Option.join_some, wipeE, if_true, if_false, reduceIte, Bool.false_eq_true, Bool.not_true, Bool.not_false, hh, decide_true]
      · simp only [e_fnRun, e_bnd, e_bndS, e_seq, e_if, e_ret, e_retN, e_set, e_expr, e_raise, e_nil, e_par, e_asg, e_sub, e_args0, e_args1, e_rt, e_some, e_var, e_k, e_call, e_un, e_op, e_test, e_boolD, e_bAnd, e_bOr, e_bNot, e_mAnd, e_mOr, e_mNot, e_mIf, e_chain, e_tup, e_lst, e_own, e_isN, e_notN, e_part, e_noPart, e_intD, e_sl, e_seqM, e_its, e_tupM, e_lstM, e_yes, e_el, e_gtN, e_gtNil, e_gtCons, e_gtTup, e_addI, e_subI, e_ltI, e_leI, e_gtI, e_geI, e_negI, e_lenT, e_lenL, e_tupT, e_tupL, e_lstT, e_slT, e_slL, e_ix0, e_ix1, e_ix2, e_il0, e_il1, e_il2, D.isNon, List.map_cons, List.map_nil, List.cons_append, List.nil_append, List.length_cons, List.length_nil, Nat.reduceAdd, Nat.reduceSub, List.replicate_succ, List.replicate_zero, List.set_cons_zero, List.set_cons_succ, List.getElem?_cons_zero, List.getElem?_cons_succ, Option.join_some, wipeE, if_true, if_false, reduceIte, Bool.false_eq_true, Bool.not_true, Bool.not_false, hh, decide_false, in_ref F.at_]]
    rw [filterMap_if (fun o => !decide (o = k)) (fun o => D.bl (decide (-o ∈ fs)))]
  unfold lfC
  by_cases hj : k ∈ fs
  · refine .inl ?_
    simp only [e_fnRun, e_bnd, e_bndS, e_seq, e_if, e_ret, e_retN, e_set, e_expr, e_raise, e_nil, e_par, e_asg, e_sub, e_args0, e_args1, e_rt, e_some, e_var, e_k, e_call, e_un, e_op, e_test, e_boolD, e_bAnd, e_bOr, e_bNot, e_mAnd, e_mOr, e_mNot, e_mIf, e_chain, e_tup, e_lst, e_own, e_isN, e_notN, e_part, e_noPart, e_intD, e_sl, e_seqM, e_its, e_tupM, e_lstM, e_yes, e_el, e_gtN, e_gtNil, e_gtCons, e_gtTup, e_addI, e_subI, e_ltI, e_leI, e_gtI, e_geI, e_negI, e_lenT, e_lenL, e_tupT, e_tupL, e_lstT, e_slT, e_slL, e_ix0, e_ix1, e_ix2, e_il0, e_il1, e_il2, D.isNon, List.map_cons, List.map_nil, List.cons_append, List.nil_append, List.length_cons, List.length_nil, Nat.reduceAdd, Nat.reduceSub, List.replicate_succ, List.replicate_zero, List.set_cons_zero, List.set_cons_succ, List.getElem?_cons_zero, List.getElem?_cons_succ, Option.join_some, wipeE, if_true, if_false, reduceIte, Bool.false_eq_true, Bool.not_true, Bool.not_false, nin_ref F.at_, hj, decide_true]
  · cases ha : (c.filter fun o => !decide (o = k)).all (fun o => decide (-o ∈ fs)) with
    | false =>
      refine .inl ?_
      simp only [e_fnRun, e_bnd, e_bndS, e_seq, e_if, e_ret, e_retN, e_set, e_expr, e_raise, e_nil, e_par, e_asg, e_sub, e_args0, e_args1, e_rt, e_some, e_var, e_k, e_call, e_un, e_op, e_test, e_boolD, e_bAnd, e_bOr, e_bNot, e_mAnd, e_mOr, e_mNot, e_mIf, e_chain, e_tup, e_lst, e_own, e_isN, e_notN, e_part, e_noPart, e_intD, e_sl, e_seqM, e_its, e_tupM, e_lstM, e_yes, e_el, e_gtN, e_gtNil, e_gtCons, e_gtTup, e_addI, e_subI, e_ltI, e_leI, e_gtI, e_geI, e_negI, e_lenT, e_lenL, e_tupT, e_tupL, e_lstT, e_slT, e_slL, e_ix0, e_ix1, e_ix2, e_il0, e_il1, e_il2, D.isNon, List.map_cons, List.map_nil, List.cons_append, List.nil_append, List.length_cons, List.length_nil, Nat.reduceAdd, Nat.reduceSub, List.replicate_succ, List.replicate_zero, List.set_cons_zero, List.set_cons_succ, List.getElem?_cons_zero, List.getElem?_cons_succ, Option.join_some, wipeE, if_true, if_false, reduceIte, Bool.false_eq_true, Bool.not_true, Bool.not_false, nin_ref F.at_, hj, decide_false, h1, all_map, ha]
    | true =>
      have hf : Fc css ns k := .step hc hk fun o ho hne => (F.fc _ (of_decide_eq_true (List.all_eq_true.mp ha o (List.mem_filter.mpr ⟨ho, by simpa using hne⟩)))).1
      obtain ⟨ap, F'⟩ := F.app hU hj ⟨hf, List.mem_append_right _ (List.mem_flatten.mpr ⟨c, hc, hk⟩)⟩
      refine .inr ⟨k, _, hj, ?_, F'⟩
      simp only [e_fnRun, e_bnd, e_bndS, e_seq, e_if, e_ret, e_retN, e_set, e_expr, e_raise, e_nil, e_par, e_asg, e_sub, e_args0, e_args1, e_rt, e_some, e_var, e_k, e_call, e_un, e_op, e_test, e_boolD, e_bAnd, e_bOr, e_bNot, e_mAnd, e_mOr, e_mNot, e_mIf, e_chain, e_tup, e_lst, e_own, e_isN, e_notN, e_part, e_noPart, e_intD, e_sl, e_seqM, e_its, e_tupM, e_lstM, e_yes, e_el, e_gtN, e_gtNil, e_gtCons, e_gtTup, e_addI, e_subI, e_ltI, e_leI, e_gtI, e_geI, e_negI, e_lenT, e_lenL, e_tupT, e_tupL, e_lstT, e_slT, e_slL, e_ix0, e_ix1, e_ix2, e_il0, e_il1, e_il2, D.isNon, List.map_cons, List.map_nil, List.cons_append, List.nil_append, List.length_cons, List.length_nil, Nat.reduceAdd, Nat.reduceSub, List.replicate_succ, List.replicate_zero, List.set_cons_zero, List.set_cons_succ, List.getElem?_cons_zero, List.getElem?_cons_succ, Option.join_some, wipeE, if_true, if_false, reduceIte, Bool.false_eq_true, Bool.not_true, Bool.not_false, nin_ref F.at_, hj, decide_false, h1, all_map, ha, e_mt, lst_ref F.at_, ap]
theorem lf_loopK {g : Store → Prop} (hg : ∀ S, g S) (hU : (ns ++ css.flatten).length ≤ 900) {c : List Int} (hc : c ∈ css) : ∀ (ks : List Int) (S : Store) (fs : List Int) (b : Bool) (x6 : Option D), (∀ k ∈ ks, k ∈ c) → Fs css ns p S0 S fs →
    (∃ y6, forD g (gtN 6) lfC (ks.map .int) [x0, x1, some (.ref p), some (.bl b), some (clT c), x5, x6, x7] S = .nx [x0, x1, some (.ref p), some (.bl b), some (clT c), x5, y6, x7] S) ∨
    (∃ y6 S' fs' l, forD g (gtN 6) lfC (ks.map .int) [x0, x1, some (.ref p), some (.bl b), some (clT c), x5, x6, x7] S = .nx [x0, x1, some (.ref p), some (.bl true), some (clT c), x5, y6, x7] S' ∧ Fs css ns p S0 S' fs' ∧ l ∉ fs ∧ l ∈ fs' ∧ ∀ k ∈ fs, k ∈ fs')
  | [], S, fs, b, x6, _, F => .inl ⟨x6, by simp only [List.map_nil, forD, if_pos (hg S)]⟩
  | k :: ks, S, fs, b, x6, hks, F => by
    have hks' : ∀ d ∈ ks, d ∈ c := fun d hd => hks d (List.mem_cons_of_mem _ hd)
    rcases lfC_ok (x0 := x0) (x1 := x1) (x3 := some (.bl b)) (x5 := x5) (x7 := x7) F hU hc (hks k List.mem_cons_self) with h3 | ⟨l, S1, h1, h2, F1⟩
    · have st : forD g (gtN 6) lfC ((k :: ks).map .int) [x0, x1, some (.ref p), some (.bl b), some (clT c), x5, x6, x7] S = forD g (gtN 6) lfC (ks.map .int) [x0, x1, some (.ref p), some (.bl b), some (clT c), x5, some (.int k), x7] S := by
        simp only [List.map_cons, forD, if_pos (hg S)]
        simp only [e_fnRun, e_bnd, e_bndS, e_seq, e_if, e_ret, e_retN, e_set, e_expr, e_raise, e_nil, e_par, e_asg, e_sub, e_args0, e_args1, e_rt, e_some, e_var, e_k, e_call, e_un, e_op, e_test, e_boolD, e_bAnd, e_bOr, e_bNot, e_mAnd, e_mOr, e_mNot, e_mIf, e_chain, e_tup, e_lst, e_own, e_isN, e_notN, e_part, e_noPart, e_intD, e_sl, e_seqM, e_its, e_tupM, e_lstM, e_yes, e_el, e_gtN, e_gtNil, e_gtCons, e_gtTup, e_addI, e_subI, e_ltI, e_leI, e_gtI, e_geI, e_negI, e_lenT, e_lenL, e_tupT, e_tupL, e_lstT, e_slT, e_slL, e_ix0, e_ix1, e_ix2, e_il0, e_il1, e_il2, D.isNon, List.map_cons, List.map_nil, List.cons_append, List.nil_append, List.length_cons, List.length_nil, Nat.reduceAdd, Nat.reduceSub, List.replicate_succ, List.replicate_zero, List.set_cons_zero, List.set_cons_succ, List.getElem?_cons_zero, List.getElem?_cons_succ, Option.join_some, wipeE, if_true, if_false, reduceIte, Bool.false_eq_true, Bool.not_true, Bool.not_false]
        rw [h3]
      rw [st]
      exact lf_loopK hg hU hc ks S fs b (some (.int k)) hks' F
    · have st : forD g (gtN 6) lfC ((k :: ks).map .int) [x0, x1, some (.ref p), some (.bl b), some (clT c), x5, x6, x7] S = forD g (gtN 6) lfC (ks.map .int) [x0, x1, some (.ref p), some (.bl true), some (clT c), x5, some (.int k), x7] S1 := by
        simp only [List.map_cons, forD, if_pos (hg S)]
        simp only [e_fnRun, e_bnd, e_bndS, e_seq, e_if, e_ret, e_retN, e_set, e_expr, e_raise, e_nil, e_par, e_asg, e_sub, e_args0, e_args1, e_rt, e_some, e_var, e_k, e_call, e_un, e_op, e_test, e_boolD, e_bAnd, e_bOr, e_bNot, e_mAnd, e_mOr, e_mNot, e_mIf, e_chain, e_tup, e_lst, e_own, e_isN, e_notN, e_part, e_noPart, e_intD, e_sl, e_seqM, e_its, e_tupM, e_lstM, e_yes, e_el, e_gtN, e_gtNil, e_gtCons, e_gtTup, e_addI, e_subI, e_ltI, e_leI, e_gtI, e_geI, e_negI, e_lenT, e_lenL, e_tupT, e_tupL, e_lstT, e_slT, e_slL, e_ix0, e_ix1, e_ix2, e_il0, e_il1, e_il2, D.isNon, List.map_cons, List.map_nil, List.cons_append, List.nil_append, List.length_cons, List.length_nil, Nat.reduceAdd, Nat.reduceSub, List.replicate_succ, List.replicate_zero, List.set_cons_zero, List.set_cons_succ, List.getElem?_cons_zero, List.getElem?_cons_succ, Option.join_some, wipeE, if_true, if_false, reduceIte, Bool.false_eq_true, Bool.not_true, Bool.not_false]
        rw [h2]
      rw [st]
      rcases lf_loopK hg hU hc ks S1 (fs ++ [l]) true (some (.int k)) hks' F1 with ⟨y6, e⟩ | ⟨y6, S', fs', m, e, F', q1, q2, q3⟩
      · exact .inr ⟨y6, S1, _, l, e, F1, h1, by simp, fun k hk => List.mem_append_left _ hk⟩
      · exact .inr ⟨y6, S', fs', l, e, F', h1, q3 l (by simp), fun k hk => q3 k (List.mem_append_left _ hk)⟩
theorem lf_loopB {g : Store → Prop} (hg : ∀ S, g S) (hU : (ns ++ css.flatten).length ≤ 900) : ∀ (cs : List (List Int)) (S : Store) (fs : List Int) (b : Bool) (x4 x6 : Option D), (∀ c ∈ cs, c ∈ css) → Fs css ns p S0 S fs →
    (∃ y4 y6, forD g (gtN 4) (sFor (mSeq (mVar 4)) (gtN 6) lfC) (cs.map clT) [x0, x1, some (.ref p), some (.bl b), x4, x5, x6, x7] S = .nx [x0, x1, some (.ref p), some (.bl b), y4, x5, y6, x7] S) ∨
    (∃ y4 y6 S' fs' l, forD g (gtN 4) (sFor (mSeq (mVar 4)) (gtN 6) lfC) (cs.map clT) [x0, x1, some (.ref p), some (.bl b), x4, x5, x6, x7] S = .nx [x0, x1, some (.ref p), some (.bl true), y4, x5, y6, x7] S' ∧ Fs css ns p S0 S' fs' ∧ l ∉ fs ∧ l ∈ fs' ∧ ∀ k ∈ fs, k ∈ fs')
  | [], S, fs, b, x4, x6, _, F => .inl ⟨x4, x6, by simp only [List.map_nil, forD, if_pos (hg S)]⟩
  | c :: cs, S, fs, b, x4, x6, hcs, F => by
    have hc := hcs c List.mem_cons_self
    have hcs' : ∀ d ∈ cs, d ∈ css := fun d hd => hcs d (List.mem_cons_of_mem _ hd)
    have fo : ∀ S, sFor (mSeq (mVar 4)) (gtN 6) lfC [x0, x1, some (.ref p), some (.bl b), some (clT c), x5, x6, x7] S = forD (fun S' => seqOf S' (clT c) = some (true, c.map .int)) (gtN 6) lfC (c.map .int) [x0, x1, some (.ref p), some (.bl b), some (clT c), x5, x6, x7] S := fun S => by
      rw [e_for]
      simp only [e_fnRun, e_bnd, e_bndS, e_seq, e_if, e_ret, e_retN, e_set, e_expr, e_raise, e_nil, e_par, e_asg, e_sub, e_args0, e_args1, e_rt, e_some, e_var, e_k, e_call, e_un, e_op, e_test, e_boolD, e_bAnd, e_bOr, e_bNot, e_mAnd, e_mOr, e_mNot, e_mIf, e_chain, e_tup, e_lst, e_own, e_isN, e_notN, e_part, e_noPart, e_intD, e_sl, e_seqM, e_its, e_tupM, e_lstM, e_yes, e_el, e_gtN, e_gtNil, e_gtCons, e_gtTup, e_addI, e_subI, e_ltI, e_leI, e_gtI, e_geI, e_negI, e_lenT, e_lenL, e_tupT, e_tupL, e_lstT, e_slT, e_slL, e_ix0, e_ix1, e_ix2, e_il0, e_il1, e_il2, D.isNon, List.map_cons, List.map_nil, List.cons_append, List.nil_append, List.length_cons, List.length_nil, Nat.reduceAdd, Nat.reduceSub, List.replicate_succ, List.replicate_zero, List.set_cons_zero, List.set_cons_succ, List.getElem?_cons_zero, List.getElem?_cons_succ, Option.join_some, wipeE, if_true, if_false, reduceIte, Bool.false_eq_true, Bool.not_true, Bool.not_false]
    rcases lf_loopK (x0 := x0) (x1 := x1) (x5 := x5) (x7 := x7) (g := fun S' => seqOf S' (clT c) = some (true, c.map .int)) (fun _ => rfl) hU hc c S fs b x6 (fun _ h => h) F with ⟨y6, h3⟩ | ⟨y6, S1, fs1, l, h2, F1, h1, h4, h5⟩
    · have st : forD g (gtN 4) (sFor (mSeq (mVar 4)) (gtN 6) lfC) ((c :: cs).map clT) [x0, x1, some (.ref p), some (.bl b), x4, x5, x6, x7] S = forD g (gtN 4) (sFor (mSeq (mVar 4)) (gtN 6) lfC) (cs.map clT) [x0, x1, some (.ref p), some (.bl b), some (clT c), x5, y6, x7] S := by
        simp only [List.map_cons, forD, if_pos (hg S)]
        simp only [e_fnRun, e_bnd, e_bndS, e_seq, e_if, e_ret, e_retN, e_set, e_expr, e_raise, e_nil, e_par, e_asg, e_sub, e_args0, e_args1, e_rt, e_some, e_var, e_k, e_call, e_un, e_op, e_test, e_boolD, e_bAnd, e_bOr, e_bNot, e_mAnd, e_mOr, e_mNot, e_mIf, e_chain, e_tup, e_lst, e_own, e_isN, e_notN, e_part, e_noPart, e_intD, e_sl, e_seqM, e_its, e_tupM, e_lstM, e_yes, e_el, e_gtN, e_gtNil, e_gtCons, e_gtTup, e_addI, e_subI, e_ltI, e_leI, e_gtI, e_geI, e_negI, e_lenT, e_lenL, e_tupT, e_tupL, e_lstT, e_slT, e_slL, e_ix0, e_ix1, e_ix2, e_il0, e_il1, e_il2, D.isNon, List.map_cons, List.map_nil, List.cons_append, List.nil_append, List.length_cons, List.length_nil, Nat.reduceAdd, Nat.reduceSub, List.replicate_succ, List.replicate_zero, List.set_cons_zero, List.set_cons_succ, List.getElem?_cons_zero, List.getElem?_cons_succ, Option.join_some, wipeE, if_true, if_false, reduceIte, Bool.false_eq_true, Bool.not_true, Bool.not_false]
        rw [fo, h3]
      rw [st]
      exact lf_loopB hg hU cs S fs b (some (clT c)) y6 hcs' F
    · have st : forD g (gtN 4) (sFor (mSeq (mVar 4)) (gtN 6) lfC) ((c :: cs).map clT) [x0, x1, some (.ref p), some (.bl b), x4, x5, x6, x7] S = forD g (gtN 4) (sFor (mSeq (mVar 4)) (gtN 6) lfC) (cs.map clT) [x0, x1, some (.ref p), some (.bl true), some (clT c), x5, y6, x7] S1 := by
        simp only [List.map_cons, forD, if_pos (hg S)]
        simp only [e_fnRun, e_bnd, e_bndS, e_seq, e_if, e_ret, e_retN, e_set, e_expr, e_raise, e_nil, e_par, e_asg, e_sub, e_args0, e_args1, e_rt, e_some, e_var, e_k, e_call, e_un, e_op, e_test, e_boolD, e_bAnd, e_bOr, e_bNot, e_mAnd, e_mOr, e_mNot, e_mIf, e_chain, e_tup, e_lst, e_own, e_isN, e_notN, e_part, e_noPart, e_intD, e_sl, e_seqM, e_its, e_tupM, e_lstM, e_yes, e_el, e_gtN, e_gtNil, e_gtCons, e_gtTup, e_addI, e_subI, e_ltI, e_leI, e_gtI, e_geI, e_negI, e_lenT, e_lenL, e_tupT, e_tupL, e_lstT, e_slT, e_slL, e_ix0, e_ix1, e_ix2, e_il0, e_il1, e_il2, D.isNon, List.map_cons, List.map_nil, List.cons_append, List.nil_append, List.length_cons, List.length_nil, Nat.reduceAdd, Nat.reduceSub, List.replicate_succ, List.replicate_zero, List.set_cons_zero, List.set_cons_succ, List.getElem?_cons_zero, List.getElem?_cons_succ, Option.join_some, wipeE, if_true, if_false, reduceIte, Bool.false_eq_true, Bool.not_true, Bool.not_false]
        rw [fo, h2]
      rw [st]
      rcases lf_loopB hg hU cs S1 fs1 true (some (clT c)) y6 hcs' F1 with ⟨y4, z6, e⟩ | ⟨y4, z6, S', fs', m, e, F', q1, q2, q3⟩
      · exact .inr ⟨y4, z6, S1, fs1, l, e, F1, h1, h4, h5⟩
      · exact .inr ⟨y4, z6, S', fs', l, e, F', h1, q3 l h4, fun k hk => q3 k (h5 k hk)⟩
end
end K14

set_option Elab.async false
set_option maxRecDepth 100000
set_option linter.all false
set_option maxHeartbeats 4000000
namespace K14
open PySem hiding ret
open Mir
open Classical

noncomputable def lfW : MS := (sSeq (sSet 3 (mK (.bl false)))
  (sSeq (sFor (mSeq (mVar 0)) (gtN 4) lfA)
  (sSeq (sFor (mSeq (mVar 0)) (gtN 4) (sFor (mSeq (mVar 4)) (gtN 6) lfC))
  (sIf (mTest (mCall anyD [(mLc [6] (mSeq (mVar 2)) (gtN 6) bYes (mOp inD (mUn negD (mVar 6)) (mVar 2)) resF)])) (sRet (mK .non)) sNil))))
section
variable {css : List (List Int)} {ns : List Int} {p : Nat} {S0 S : Store} {fs : List Int} {x1 x4 x5 x6 x7 : Option D}
theorem e_forT {i : Nat} {m : MS} {env : Mir.Env} (h : mVar i env S = .ok (csT css) S) : sFor (mSeq (mVar i)) (gtN 4) m env S = forD (fun S' => seqOf S' (csT css) = some (true, css.map clT)) (gtN 4) m (css.map clT) env S := by
  rw [e_for, e_bndS, e_seqM, e_bnd, h]
  rfl
/-- one turn: None, or all as it was and closed, or more is found -/
theorem lfW_ok {b : Bool} (F : Fs css ns p S0 S fs) (hU : (ns ++ css.flatten).length ≤ 900) (hnd : ∀ c ∈ css, c.Nodup) :
    (∃ S', lfW [some (csT css), x1, some (.ref p), some (.bl b), x4, x5, x6, x7] S = .rt .non S' ∧ Bad css ns ∧ ∀ i, i ≠ p → S'[i]? = S0[i]?) ∨
    (∃ y4 y5 y6 S', lfW [some (csT css), x1, some (.ref p), some (.bl b), x4, x5, x6, x7] S = .nx [some (csT css), x1, some (.ref p), some (.bl false), y4, y5, y6, x7] S' ∧ Fs css ns p S0 S' fs ∧ ¬ Bad css ns ∧ ∀ k, Fc css ns k → k ∈ fs) ∨
    (∃ y4 y5 y6 S' fs' l, lfW [some (csT css), x1, some (.ref p), some (.bl b), x4, x5, x6, x7] S = .nx [some (csT css), x1, some (.ref p), some (.bl true), y4, y5, y6, x7] S' ∧ Fs css ns p S0 S' fs' ∧ l ∉ fs ∧ l ∈ fs' ∧ ∀ k ∈ fs, k ∈ fs') := by
  -- the last test of a turn
  have tst : ∀ (S2 : Store) (gs : List Int) (z3 z4 z5 z6 : Option D), Fs css ns p S0 S2 gs → mLc [6] (mSeq (mVar 2)) (gtN 6) bYes (mOp inD (mUn negD (mVar 6)) (mVar 2)) resF [some (csT css), x1, some (.ref p), z3, z4, z5, z6, x7] S2 = .ok (.lst (gs.map fun k => .bl (decide (-k ∈ gs)))) S2 := fun S2 gs z3 z4 z5 z6 G => by
    have h1 : mLc [6] (mSeq (mVar 2)) (gtN 6) bYes (mOp inD (mUn negD (mVar 6)) (mVar 2)) resF [some (csT css), x1, some (.ref p), z3, z4, z5, z6, x7] S2 = .ok (.lst (gs.map fun k => .bl (decide (-k ∈ gs)))) S2 :=
      mLc_ints (g := fun S' => seqOf S' (.ref p) = some (false, gs.map .int)) (by
        rw [e_seqM, e_bnd]
        simp only [e_fnRun, e_bnd, e_bndS, e_seq, e_if, e_ret, e_retN, e_set, e_expr, e_raise, e_nil, e_par, e_asg, e_sub, e_args0, e_args1, e_rt, e_some, e_var, e_k, e_call, e_un, e_op, e_test, e_boolD, e_bAnd, e_bOr, e_bNot, e_mAnd, e_mOr, e_mNot, e_mIf, e_chain, e_tup, e_lst, e_own, e_isN, e_notN, e_part, e_noPart, e_intD, e_sl, e_seqM, e_its, e_tupM, e_lstM, e_yes, e_el, e_gtN, e_gtNil, e_gtCons, e_gtTup, e_addI, e_subI, e_ltI, e_leI, e_gtI, e_geI, e_negI, e_lenT, e_lenL, e_tupT, e_tupL, e_lstT, e_slT, e_slL, e_ix0, e_ix1, e_ix2, e_il0, e_il1, e_il2, D.isNon, List.map_cons, List.map_nil, List.cons_append, List.nil_append, List.length_cons, List.length_nil, Nat.reduceAdd, Nat.reduceSub, List.replicate_succ, List.replicate_zero, List.set_cons_zero, List.set_cons_succ, List.getElem?_cons_zero, List.getElem?_cons_succ, Option.join_some, wipeE, if_true, if_false, reduceIte, Bool.false_eq_true, Bool.not_true, Bool.not_false, seqM, seq_ref G.at_]) (seq_ref G.at_) _ fun k hk => by simp only [e_fnRun, e_bnd, e_bndS, e_seq, e_if, e_ret, e_retN, e_set, e_expr, e_raise, e_nil, e_par, e_asg, e_sub, e_args0, e_args1, e_rt, e_some, e_var, e_k, e_call, e_un, e_op, e_test, e_boolD, e_bAnd, e_bOr, e_bNot, e_mAnd, e_mOr, e_mNot, e_mIf, e_chain, e_tup, e_lst, e_own, e_isN, e_notN, e_part, e_noPart, e_intD, e_sl, e_seqM, e_its, e_tupM, e_lstM, e_yes, e_el, e_gtN, e_gtNil, e_gtCons, e_gtTup, e_addI, e_subI, e_ltI, e_leI, e_gtI, e_geI, e_negI, e_lenT, e_lenL, e_tupT, e_tupL, e_lstT, e_slT, e_slL, e_ix0, e_ix1, e_ix2, e_il0, e_il1, e_il2, D.isNon, List.map_cons, List.map_nil, List.cons_append, List.nil_append, List.length_cons, List.length_nil, Nat.reduceAdd, Nat.reduceSub, List.replicate_succ, List.replicate_zero, List.set_cons_zero, List.set_cons_succ, List.getElem?_cons_zero, List.getElem?_cons_succ, Option.join_some, wipeE, if_true, if_false, reduceIte, Bool.false_eq_true, Bool.not_true, Bool.not_false, in_ref G.at_]
    exact h1
  have bad_of : ∀ gs : List Int, (∀ k ∈ gs, Fc css ns k ∧ k ∈ ns ++ css.flatten) → gs.any (fun k => decide (-k ∈ gs)) = true → Bad css ns := fun gs hg h => by
    obtain ⟨k, hk, hk2⟩ := List.any_eq_true.mp h
    exact .inr ⟨k, (hg k hk).1, (hg _ (of_decide_eq_true hk2)).1⟩
  have hgt : ∀ S : Store, (fun S' => seqOf S' (csT css) = some (true, css.map clT)) S := fun _ => rfl
  rcases lf_loopA (x0 := some (csT css)) (x1 := x1) (x6 := x6) (x7 := x7) hgt hU css S fs false x4 x5 (fun _ h => h) F with ⟨S1, e1, bd, o1⟩ | ⟨y4, y5, S1, e1, F1, q1⟩ | ⟨y4, y5, S1, fs1, l, e1, F1, q1, q2, q3⟩
  · refine .inl ⟨S1, ?_, bd, o1⟩
    unfold lfW
    simp only [e_fnRun, e_bnd, e_bndS, e_seq, e_if, e_ret, e_retN, e_set, e_expr, e_raise, e_nil, e_par, e_asg, e_sub, e_args0, e_args1, e_rt, e_some, e_var, e_k, e_call, e_un, e_op, e_test, e_boolD, e_bAnd, e_bOr, e_bNot, e_mAnd, e_mOr, e_mNot, e_mIf, e_chain, e_tup, e_lst, e_own, e_isN, e_notN, e_part, e_noPart, e_intD, e_sl, e_seqM, e_its, e_tupM, e_lstM, e_yes, e_el, e_gtN, e_gtNil, e_gtCons, e_gtTup, e_addI, e_subI, e_ltI, e_leI, e_gtI, e_geI, e_negI, e_lenT, e_lenL, e_tupT, e_tupL, e_lstT, e_slT, e_slL, e_ix0, e_ix1, e_ix2, e_il0, e_il1, e_il2, D.isNon, List.map_cons, List.map_nil, List.cons_append, List.nil_append, List.length_cons, List.length_nil, Nat.reduceAdd, Nat.reduceSub, List.replicate_succ, List.replicate_zero, List.set_cons_zero, List.set_cons_succ, List.getElem?_cons_zero, List.getElem?_cons_succ, Option.join_some, wipeE, if_true, if_false, reduceIte, Bool.false_eq_true, Bool.not_true, Bool.not_false]
    rw [e_forT (css := css) rfl, e1]
  · rcases lf_loopB (x0 := some (csT css)) (x1 := x1) (x5 := y5) (x7 := x7) hgt hU css S1 fs false y4 x6 (fun _ h => h) F1 with ⟨z4, z6, e2⟩ | ⟨z4, z6, S2, fs2, l, e2, F2, r1, r2, r3⟩
    · have hcl := closed_of F.sub hnd (fun c hc => (q1 c hc).1) (fun c hc => (q1 c hc).2)
      cases ha : fs.any (fun k => decide (-k ∈ fs)) with
      | true =>
        refine .inl ⟨S1, ?_, bad_of fs F1.fc ha, F1.old⟩
        unfold lfW
        simp only [e_fnRun, e_bnd, e_bndS, e_seq, e_if, e_ret, e_retN, e_set, e_expr, e_raise, e_nil, e_par, e_asg, e_sub, e_args0, e_args1, e_rt, e_some, e_var, e_k, e_call, e_un, e_op, e_test, e_boolD, e_bAnd, e_bOr, e_bNot, e_mAnd, e_mOr, e_mNot, e_mIf, e_chain, e_tup, e_lst, e_own, e_isN, e_notN, e_part, e_noPart, e_intD, e_sl, e_seqM, e_its, e_tupM, e_lstM, e_yes, e_el, e_gtN, e_gtNil, e_gtCons, e_gtTup, e_addI, e_subI, e_ltI, e_leI, e_gtI, e_geI, e_negI, e_lenT, e_lenL, e_tupT, e_tupL, e_lstT, e_slT, e_slL, e_ix0, e_ix1, e_ix2, e_il0, e_il1, e_il2, D.isNon, List.map_cons, List.map_nil, List.cons_append, List.nil_append, List.length_cons, List.length_nil, Nat.reduceAdd, Nat.reduceSub, List.replicate_succ, List.replicate_zero, List.set_cons_zero, List.set_cons_succ, List.getElem?_cons_zero, List.getElem?_cons_succ, Option.join_some, wipeE, if_true, if_false, reduceIte, Bool.false_eq_true, Bool.not_true, Bool.not_false]
        rw [e_forT (css := css) rfl, e1]
        simp only [e_fnRun, e_bnd, e_bndS, e_seq, e_if, e_ret, e_retN, e_set, e_expr, e_raise, e_nil, e_par, e_asg, e_sub, e_args0, e_args1, e_rt, e_some, e_var, e_k, e_call, e_un, e_op, e_test, e_boolD, e_bAnd, e_bOr, e_bNot, e_mAnd, e_mOr, e_mNot, e_mIf, e_chain, e_tup, e_lst, e_own, e_isN, e_notN, e_part, e_noPart, e_intD, e_sl, e_seqM, e_its, e_tupM, e_lstM, e_yes, e_el, e_gtN, e_gtNil, e_gtCons, e_gtTup, e_addI, e_subI, e_ltI, e_leI, e_gtI, e_geI, e_negI, e_lenT, e_lenL, e_tupT, e_tupL, e_lstT, e_slT, e_slL, e_ix0, e_ix1, e_ix2, e_il0, e_il1, e_il2, D.isNon, List.map_cons, List.map_nil, List.cons_append, List.nil_append, List.length_cons, List.length_nil, Nat.reduceAdd, Nat.reduceSub, List.replicate_succ, List.replicate_zero, List.set_cons_zero, List.set_cons_succ, List.getElem?_cons_zero, List.getElem?_cons_succ, Option.join_some, wipeE, if_true, if_false, reduceIte, Bool.false_eq_true, Bool.not_true, Bool.not_false]
        rw [e_forT (css := css) rfl, e2]
        simp only [e_fnRun, e_bnd, e_bndS, e_seq, e_if, e_ret, e_retN, e_set, e_expr, e_raise, e_nil, e_par, e_asg, e_sub, e_args0, e_args1, e_rt, e_some, e_var, e_k, e_call, e_un, e_op, e_test, e_boolD, e_bAnd, e_bOr, e_bNot, e_mAnd, e_mOr, e_mNot, e_mIf, e_chain, e_tup, e_lst, e_own, e_isN, e_notN, e_part, e_noPart, e_intD, e_sl, e_seqM, e_its, e_tupM, e_lstM, e_yes, e_el, e_gtN, e_gtNil, e_gtCons, e_gtTup, e_addI, e_subI, e_ltI, e_leI, e_gtI, e_geI, e_negI, e_lenT, e_lenL, e_tupT, e_tupL, e_lstT, e_slT, e_slL, e_ix0, e_ix1, e_ix2, e_il0, e_il1, e_il2, D.isNon, List.map_cons, List.map_nil, List.cons_append, List.nil_append, List.length_cons, List.length_nil, Nat.reduceAdd, Nat.reduceSub, List.replicate_succ, List.replicate_zero, List.set_cons_zero, List.set_cons_succ, List.getElem?_cons_zero, List.getElem?_cons_succ, Option.join_some, wipeE, if_true, if_false, reduceIte, Bool.false_eq_true, Bool.not_true, Bool.not_false, tst S1 fs _ _ _ _ F1, any_map, ha]
      | false =>
        refine .inr (.inl ⟨z4, y5, z6, S1, ?_, F1, ?_, hcl⟩)
        · unfold lfW
          simp only [e_fnRun, e_bnd, e_bndS, e_seq, e_if, e_ret, e_retN, e_set, e_expr, e_raise, e_nil, e_par, e_asg, e_sub, e_args0, e_args1, e_rt, e_some, e_var, e_k, e_call, e_un, e_op, e_test, e_boolD, e_bAnd, e_bOr, e_bNot, e_mAnd, e_mOr, e_mNot, e_mIf, e_chain, e_tup, e_lst, e_own, e_isN, e_notN, e_part, e_noPart, e_intD, e_sl, e_seqM, e_its, e_tupM, e_lstM, e_yes, e_el, e_gtN, e_gtNil, e_gtCons, e_gtTup, e_addI, e_subI, e_ltI, e_leI, e_gtI, e_geI, e_negI, e_lenT, e_lenL, e_tupT, e_tupL, e_lstT, e_slT, e_slL, e_ix0, e_ix1, e_ix2, e_il0, e_il1, e_il2, D.isNon, List.map_cons, List.map_nil, List.cons_append, List.nil_append, List.length_cons, List.length_nil, Nat.reduceAdd, Nat.reduceSub, List.replicate_succ, List.replicate_zero, List.set_cons_zero, List.set_cons_succ, List.getElem?_cons_zero, List.getElem?_cons_succ, Option.join_some, wipeE, if_true, if_false, reduceIte, Bool.false_eq_true, Bool.not_true, Bool.not_false]
          rw [e_forT (css := css) rfl, e1]
          simp only [e_fnRun, e_bnd, e_bndS, e_seq, e_if, e_ret, e_retN, e_set, e_expr, e_raise, e_nil, e_par, e_asg, e_sub, e_args0, e_args1, e_rt, e_some, e_var, e_k, e_call, e_un, e_op, e_test, e_boolD, e_bAnd, e_bOr, e_bNot, e_mAnd, e_mOr, e_mNot, e_mIf, e_chain, e_tup, e_lst, e_own, e_isN, e_notN, e_part, e_noPart, e_intD, e_sl, e_seqM, e_its, e_tupM, e_lstM, e_yes, e_el, e_gtN, e_gtNil, e_gtCons, e_gtTup, e_addI, e_subI, e_ltI, e_leI, e_gtI, e_geI, e_negI, e_lenT, e_lenL, e_tupT, e_tupL, e_lstT, e_slT, e_slL, e_ix0, e_ix1, e_ix2, e_il0, e_il1, e_il2, D.isNon, List.map_cons, List.map_nil, List.cons_append, List.nil_append, List.length_cons, List.length_nil, Nat.reduceAdd, Nat.reduceSub, List.replicate_succ, List.replicate_zero, List.set_cons_zero, List.set_cons_succ, List.getElem?_cons_zero, List.getElem?_cons_succ, Option.join_some, wipeE, if_true, if_false, reduceIte, Bool.false_eq_true, Bool.not_true, Bool.not_false]
          rw [e_forT (css := css) rfl, e2]
          simp only [e_fnRun, e_bnd, e_bndS, e_seq, e_if, e_ret, e_retN, e_set, e_expr, e_raise, e_nil, e_par, e_asg, e_sub, e_args0, e_args1, e_rt, e_some, e_var, e_k, e_call, e_un, e_op, e_test, e_boolD, e_bAnd, e_bOr, e_bNot, e_mAnd, e_mOr, e_mNot, e_mIf, e_chain, e_tup, e_lst, e_own, e_isN, e_notN, e_part, e_noPart, e_intD, e_sl, e_seqM, e_its, e_tupM, e_lstM, e_yes, e_el, e_gtN, e_gtNil, e_gtCons, e_gtTup, e_addI, e_subI, e_ltI, e_leI, e_gtI, e_geI, e_negI, e_lenT, e_lenL, e_tupT, e_tupL, e_lstT, e_slT, e_slL, e_ix0, e_ix1, e_ix2, e_il0, e_il1, e_il2, D.isNon, List.map_cons, List.map_nil, List.cons_append, List.nil_append, List.length_cons, List.length_nil, Nat.reduceAdd, Nat.reduceSub, List.replicate_succ, List.replicate_zero, List.set_cons_zero, List.set_cons_succ, List.getElem?_cons_zero, List.getElem?_cons_succ, Option.join_some, wipeE, if_true, if_false, reduceIte, Bool.false_eq_true, Bool.not_true, Bool.not_false, tst S1 fs _ _ _ _ F1, any_map, ha]
        · rintro (h | ⟨k, h1, h2⟩)
          · exact (q1 [] h).1 (left_nil.mpr fun _ h => by cases h)
          · rw [Bool.eq_false_iff] at ha
            exact ha (List.any_eq_true.mpr ⟨k, hcl k h1, decide_eq_true (hcl _ h2)⟩)
    · cases ha : fs2.any (fun k => decide (-k ∈ fs2)) with
      | true =>
        refine .inl ⟨S2, ?_, bad_of fs2 F2.fc ha, F2.old⟩
        unfold lfW
        simp only [e_fnRun, e_bnd, e_bndS, e_seq, e_if, e_ret, e_retN, e_set, e_expr, e_raise, e_nil, e_par, e_asg, e_sub, e_args0, e_args1, e_rt, e_some, e_var, e_k, e_call, e_un, e_op, e_test, e_boolD, e_bAnd, e_bOr, e_bNot, e_mAnd, e_mOr, e_mNot, e_mIf, e_chain, e_tup, e_lst, e_own, e_isN, e_notN, e_part, e_noPart, e_intD, e_sl, e_seqM, e_its, e_tupM, e_lstM, e_yes, e_el, e_gtN, e_gtNil, e_gtCons, e_gtTup, e_addI, e_subI, e_ltI, e_leI, e_gtI, e_geI, e_negI, e_lenT, e_lenL, e_tupT, e_tupL, e_lstT, e_slT, e_slL, e_ix0, e_ix1, e_ix2, e_il0, e_il1, e_il2, D.isNon, List.map_cons, List.map_nil, List.cons_append, List.nil_append, List.length_cons, List.length_nil, Nat.reduceAdd, Nat.reduceSub, List.replicate_succ, List.replicate_zero, List.set_cons_zero, List.set_cons_succ, List.getElem?_cons_zero, List.getElem?_cons_succ, Option.join_some, wipeE, if_true, if_false, reduceIte, Bool.false_eq_true, Bool.not_true, Bool.not_false]
        rw [e_forT (css := css) rfl, e1]
        simp only [e_fnRun, e_bnd, e_bndS, e_seq, e_if, e_ret, e_retN, e_set, e_expr, e_raise, e_nil, e_par, e_asg, e_sub, e_args0, e_args1, e_rt, e_some, e_var, e_k, e_call, e_un, e_op, e_test, e_boolD, e_bAnd, e_bOr, e_bNot, e_mAnd, e_mOr, e_mNot, e_mIf, e_chain, e_tup, e_lst, e_own, e_isN, e_notN, e_part, e_noPart, e_intD, e_sl, e_seqM, e_its, e_tupM, e_lstM, e_yes, e_el, e_gtN, e_gtNil, e_gtCons, e_gtTup, e_addI, e_subI, e_ltI, e_leI, e_gtI, e_geI, e_negI, e_lenT, e_lenL, e_tupT, e_tupL, e_lstT, e_slT, e_slL, e_ix0, e_ix1, e_ix2, e_il0, e_il1, e_il2, D.isNon, List.map_cons, List.map_nil, List.cons_append, List.nil_append, List.length_cons, List.length_nil, Nat.reduceAdd, Nat.reduceSub, List.replicate_succ, List.replicate_zero, List.set_cons_zero, List.set_cons_succ, List.getElem?_cons_zero, List.getElem?_cons_succ, Option.join_some, wipeE, if_true, if_false, reduceIte, Bool.false_eq_true, Bool.not_true, Bool.not_false]
        rw [e_forT (css := css) rfl, e2]
        simp only [e_fnRun, e_bnd, e_bndS, e_seq, e_if, e_ret, e_retN, e_set, e_expr, e_raise, e_nil, e_par, e_asg, e_sub, e_args0, e_args1, e_rt, e_some, e_var, e_k, e_call, e_un, e_op, e_test, e_boolD, e_bAnd, e_bOr, e_bNot, e_mAnd, e_mOr, e_mNot, e_mIf, e_chain, e_tup, e_lst, e_own, e_isN, e_notN, e_part, e_noPart, e_intD, e_sl, e_seqM, e_its, e_tupM, e_lstM, e_yes, e_el, e_gtN, e_gtNil, e_gtCons, e_gtTup, e_addI, e_subI, e_ltI, e_leI, e_gtI, e_geI, e_negI, e_lenT, e_lenL, e_tupT, e_tupL, e_lstT, e_slT, e_slL, e_ix0, e_ix1, e_ix2, e_il0, e_il1, e_il2, D.isNon, List.map_cons, List.map_nil, List.cons_append, List.nil_append, List.length_cons, List.length_nil, Nat.reduceAdd, Nat.reduceSub, List.replicate_succ, List.replicate_zero, List.set_cons_zero, List.set_cons_succ, List.getElem?_cons_zero, List.getElem?_cons_succ, Option.join_some, wipeE, if_true, if_false, reduceIte, Bool.false_eq_true, Bool.not_true, Bool.not_false, tst S2 fs2 _ _ _ _ F2, any_map, ha]
      | false =>
        refine .inr (.inr ⟨z4, y5, z6, S2, fs2, l, ?_, F2, r1, r2, r3⟩)
        unfold lfW
        simp only [e_fnRun, e_bnd, e_bndS, e_seq, e_if, e_ret, e_retN, e_set, e_expr, e_raise, e_nil, e_par, e_asg, e_sub, e_args0, e_args1, e_rt, e_some, e_var, e_k, e_call, e_un, e_op, e_test, e_boolD, e_bAnd, e_bOr, e_bNot, e_mAnd, e_mOr, e_mNot, e_mIf, e_chain, e_tup, e_lst, e_own, e_isN, e_notN, e_part, e_noPart, e_intD, e_sl, e_seqM, e_its, e_tupM, e_lstM, e_yes, e_el, e_gtN, e_gtNil, e_gtCons, e_gtTup, e_addI, e_subI, e_ltI, e_leI, e_gtI, e_geI, e_negI, e_lenT, e_lenL, e_tupT, e_tupL, e_lstT, e_slT, e_slL, e_ix0, e_ix1, e_ix2, e_il0, e_il1, e_il2, D.isNon, List.map_cons, List.map_nil, List.cons_append, List.nil_append, List.length_cons, List.length_nil, Nat.reduceAdd, Nat.reduceSub, List.replicate_succ, List.replicate_zero, List.set_cons_zero, List.set_cons_succ, List.getElem?_cons_zero, List.getElem?_cons_succ, Option.join_some, wipeE, if_true, if_false, reduceIte, Bool.false_eq_true, Bool.not_true, Bool.not_false]
        rw [e_forT (css := css) rfl, e1]
        simp only [e_fnRun, e_bnd, e_bndS, e_seq, e_if, e_ret, e_retN, e_set, e_expr, e_raise, e_nil, e_par, e_asg, e_sub, e_args0, e_args1, e_rt, e_some, e_var, e_k, e_call, e_un, e_op, e_test, e_boolD, e_bAnd, e_bOr, e_bNot, e_mAnd, e_mOr, e_mNot, e_mIf, e_chain, e_tup, e_lst, e_own, e_isN, e_notN, e_part, e_noPart, e_intD, e_sl, e_seqM, e_its, e_tupM, e_lstM, e_yes, e_el, e_gtN, e_gtNil, e_gtCons, e_gtTup, e_addI, e_subI, e_ltI, e_leI, e_gtI, e_geI, e_negI, e_lenT, e_lenL, e_tupT, e_tupL, e_lstT, e_slT, e_slL, e_ix0, e_ix1, e_ix2, e_il0, e_il1, e_il2, D.isNon, List.map_cons, List.map_nil, List.cons_append, List.nil_append, List.length_cons, List.length_nil, Nat.reduceAdd, Nat.reduceSub, List.replicate_succ, List.replicate_zero, List.set_cons_zero, List.set_cons_succ, List.getElem?_cons_zero, List.getElem?_cons_succ, Option.join_some, wipeE, if_true, if_false, reduceIte, Bool.false_eq_true, Bool.not_true, Bool.not_false]
        rw [e_forT (css := css) rfl, e2]
        simp only [e_fnRun, e_bnd, e_bndS, e_seq, e_if, e_ret, e_retN, e_set, e_expr, e_raise, e_nil, e_par, e_asg, e_sub, e_args0, e_args1, e_rt, e_some, e_var, e_k, e_call, e_un, e_op, e_test, e_boolD, e_bAnd, e_bOr, e_bNot, e_mAnd, e_mOr, e_mNot, e_mIf, e_chain, e_tup, e_lst, e_own, e_isN, e_notN, e_part, e_noPart, e_intD, e_sl, e_seqM, e_its, e_tupM, e_lstM, e_yes, e_el, e_gtN, e_gtNil, e_gtCons, e_gtTup, e_addI, e_subI, e_ltI, e_leI, e_gtI, e_geI, e_negI, e_lenT, e_lenL, e_tupT, e_tupL, e_lstT, e_slT, e_slL, e_ix0, e_ix1, e_ix2, e_il0, e_il1, e_il2, D.isNon, List.map_cons, List.map_nil, List.cons_append, List.nil_append, List.length_cons, List.length_nil, Nat.reduceAdd, Nat.reduceSub, List.replicate_succ, List.replicate_zero, List.set_cons_zero, List.set_cons_succ, List.getElem?_cons_zero, List.getElem?_cons_succ, Option.join_some, wipeE, if_true, if_false, reduceIte, Bool.false_eq_true, Bool.not_true, Bool.not_false, tst S2 fs2 _ _ _ _ F2, any_map, ha]
  · -- something was found in the first walk
    obtain ⟨z4, z6, S2, fs2, e2, F2, r2, r3⟩ : ∃ z4 z6 S2 fs2, forD (fun S' => seqOf S' (csT css) = some (true, css.map clT)) (gtN 4) (sFor (mSeq (mVar 4)) (gtN 6) lfC) (css.map clT) [some (csT css), x1, some (.ref p), some (.bl true), y4, y5, x6, x7] S1 = .nx [some (csT css), x1, some (.ref p), some (.bl true), z4, y5, z6, x7] S2 ∧ Fs css ns p S0 S2 fs2 ∧ l ∈ fs2 ∧ ∀ k ∈ fs, k ∈ fs2 := by
      rcases lf_loopB (x0 := some (csT css)) (x1 := x1) (x5 := y5) (x7 := x7) hgt hU css S1 fs1 true y4 x6 (fun _ h => h) F1 with ⟨z4, z6, e2⟩ | ⟨z4, z6, S2, fs2, m, e2, F2, r1, r2, r3⟩
      · exact ⟨z4, z6, S1, fs1, e2, F1, q2, q3⟩
      · exact ⟨z4, z6, S2, fs2, e2, F2, r3 l q2, fun k hk => r3 k (q3 k hk)⟩
    cases ha : fs2.any (fun k => decide (-k ∈ fs2)) with
    | true =>
      refine .inl ⟨S2, ?_, bad_of fs2 F2.fc ha, F2.old⟩
      unfold lfW
      simp only [e_fnRun, e_bnd, e_bndS, e_seq, e_if, e_ret, e_retN, e_set, e_expr, e_raise, e_nil, e_par, e_asg, e_sub, e_args0, e_args1, e_rt, e_some, e_var, e_k, e_call, e_un, e_op, e_test, e_boolD, e_bAnd, e_bOr, e_bNot, e_mAnd, e_mOr, e_mNot, e_mIf, e_chain, e_tup, e_lst, e_own, e_isN, e_notN, e_part, e_noPart, e_intD, e_sl, e_seqM, e_its, e_tupM, e_lstM, e_yes, e_el, e_gtN, e_gtNil, e_gtCons, e_gtTup, e_addI, e_subI, e_ltI, e_leI, e_gtI, e_geI, e_negI, e_lenT, e_lenL, e_tupT, e_tupL, e_lstT, e_slT, e_slL, e_ix0, e_ix1, e_ix2, e_il0, e_il1, e_il2, D.isNon, List.map_cons, List.map_nil, List.cons_append, List.nil_append, List.length_cons, List.length_nil, Nat.reduceAdd, Nat.reduceSub, List.replicate_succ, List.replicate_zero, List.set_cons_zero, List.set_cons_succ, List.getElem?_cons_zero, List.getElem?_cons_succ, Option.join_some, wipeE, if_true, if_false, reduceIte, Bool.false_eq_true, Bool.not_true, Bool.not_false]
      rw [e_forT (css := css) rfl, e1]
      simp only [e_fnRun, e_bnd, e_bndS, e_seq, e_if, e_ret, e_retN, e_set, e_expr, e_raise, e_nil, e_par, e_asg, e_sub, e_args0, e_args1, e_rt, e_some, e_var, e_k, e_call, e_un, e_op, e_test, e_boolD, e_bAnd, e_bOr, e_bNot, e_mAnd, e_mOr, e_mNot, e_mIf, e_chain, e_tup, e_lst, e_own, e_isN, e_notN, e_part, e_noPart, e_intD, e_sl, e_seqM, e_its, e_tupM, e_lstM, e_yes, e_el, e_gtN, e_gtNil, e_gtCons, e_gtTup, e_addI, e_subI, e_ltI, e_leI, e_gtI, e_geI, e_negI, e_lenT, e_lenL, e_tupT, e_tupL, e_lstT, e_slT, e_slL, e_ix0, e_ix1, e_ix2, e_il0, e_il1, e_il2, D.isNon, List.map_cons, List.map_nil, List.cons_append, List.nil_append, List.length_cons, List.length_nil, Nat.reduceAdd, Nat.reduceSub, List.replicate_succ, List.replicate_zero, List.set_cons_zero, List.set_cons_succ, List.getElem?_cons_zero, List.getElem?_cons_succ, Option.join_some, wipeE, if_true, if_false, reduceIte, Bool.false_eq_true, Bool.not_true, Bool.not_false]
      rw [e_forT (css := css) rfl, e2]
      simp only [e_fnRun, e_bnd, e_bndS, e_seq, e_if, e_ret, e_retN, e_set, e_expr, e_raise, e_nil, e_par, e_asg, e_sub, e_args0, e_args1, e_rt, e_some, e_var, e_k, e_call, e_un, e_op, e_test, e_boolD, e_bAnd, e_bOr, e_bNot, e_mAnd, e_mOr, e_mNot, e_mIf, e_chain, e_tup, e_lst, e_own, e_isN, e_notN, e_part, e_noPart, e_intD, e_sl, e_seqM, e_its, e_tupM, e_lstM, e_yes, e_el, e_gtN, e_gtNil, e_gtCons, e_gtTup, e_addI, e_subI, e_ltI, e_leI, e_gtI, e_geI, e_negI, e_lenT, e_lenL, e_tupT, e_tupL, e_lstT, e_slT, e_slL, e_ix0, e_ix1, e_ix2, e_il0, e_il1, e_il2, D.isNon, List.map_cons, List.map_nil, List.cons_append, List.nil_append, List.length_cons, List.length_nil, Nat.reduceAdd, Nat.reduceSub, List.replicate_succ, List.replicate_zero, List.set_cons_zero, List.set_cons_succ, List.getElem?_cons_zero, List.getElem?_cons_succ, Option.join_some, wipeE, if_true, if_false, reduceIte, Bool.false_eq_true, Bool.not_true, Bool.not_false, tst S2 fs2 _ _ _ _ F2, any_map, ha]
    | false =>
      refine .inr (.inr ⟨z4, y5, z6, S2, fs2, l, ?_, F2, q1, r2, r3⟩)
      unfold lfW
      simp only [e_fnRun, e_bnd, e_bndS, e_seq, e_if, e_ret, e_retN, e_set, e_expr, e_raise, e_nil, e_par, e_asg, e_sub, e_args0, e_args1, e_rt, e_some, e_var, e_k, e_call, e_un, e_op, e_test, e_boolD, e_bAnd, e_bOr, e_bNot, e_mAnd, e_mOr, e_mNot, e_mIf, e_chain, e_tup, e_lst, e_own, e_isN, e_notN, e_part, e_noPart, e_intD, e_sl, e_seqM, e_its, e_tupM, e_lstM, e_yes, e_el, e_gtN, e_gtNil, e_gtCons, e_gtTup, e_addI, e_subI, e_ltI, e_leI, e_gtI, e_geI, e_negI, e_lenT, e_lenL, e_tupT, e_tupL, e_lstT, e_slT, e_slL, e_ix0, e_ix1, e_ix2, e_il0, e_il1, e_il2, D.isNon, List.map_cons, List.map_nil, List.cons_append, List.nil_append, List.length_cons, List.length_nil, Nat.reduceAdd, Nat.reduceSub, List.replicate_succ, List.replicate_zero, List.set_cons_zero, List.set_cons_succ, List.getElem?_cons_zero, List.getElem?_cons_succ, Option.join_some, wipeE, if_true, if_false, reduceIte, Bool.false_eq_true, Bool.not_true, Bool.not_false]
      rw [e_forT (css := css) rfl, e1]
      simp only [e_fnRun, e_bnd, e_bndS, e_seq, e_if, e_ret, e_retN, e_set, e_expr, e_raise, e_nil, e_par, e_asg, e_sub, e_args0, e_args1, e_rt, e_some, e_var, e_k, e_call, e_un, e_op, e_test, e_boolD, e_bAnd, e_bOr, e_bNot, e_mAnd, e_mOr, e_mNot, e_mIf, e_chain, e_tup, e_lst, e_own, e_isN, e_notN, e_part, e_noPart, e_intD, e_sl, e_seqM, e_its, e_tupM, e_lstM, e_yes, e_el, e_gtN, e_gtNil, e_gtCons, e_gtTup, e_addI, e_subI, e_ltI, e_leI, e_gtI, e_geI, e_negI, e_lenT, e_lenL, e_tupT, e_tupL, e_lstT, e_slT, e_slL, e_ix0, e_ix1, e_ix2, e_il0, e_il1, e_il2, D.isNon, List.map_cons, List.map_nil, List.cons_append, List.nil_append, List.length_cons, List.length_nil, Nat.reduceAdd, Nat.reduceSub, List.replicate_succ, List.replicate_zero, List.set_cons_zero, List.set_cons_succ, List.getElem?_cons_zero, List.getElem?_cons_succ, Option.join_some, wipeE, if_true, if_false, reduceIte, Bool.false_eq_true, Bool.not_true, Bool.not_false]
      rw [e_forT (css := css) rfl, e2]
      simp only [e_fnRun, e_bnd, e_bndS, e_seq, e_if, e_ret, e_retN, e_set, e_expr, e_raise, e_nil, e_par, e_asg, e_sub, e_args0, e_args1, e_rt, e_some, e_var, e_k, e_call, e_un, e_op, e_test, e_boolD, e_bAnd, e_bOr, e_bNot, e_mAnd, e_mOr, e_mNot, e_mIf, e_chain, e_tup, e_lst, e_own, e_isN, e_notN, e_part, e_noPart, e_intD, e_sl, e_seqM, e_its, e_tupM, e_lstM, e_yes, e_el, e_gtN, e_gtNil, e_gtCons, e_gtTup, e_addI, e_subI, e_ltI, e_leI, e_gtI, e_geI, e_negI, e_lenT, e_lenL, e_tupT, e_tupL, e_lstT, e_slT, e_slL, e_ix0, e_ix1, e_ix2, e_il0, e_il1, e_il2, D.isNon, List.map_cons, List.map_nil, List.cons_append, List.nil_append, List.length_cons, List.length_nil, Nat.reduceAdd, Nat.reduceSub, List.replicate_succ, List.replicate_zero, List.set_cons_zero, List.set_cons_succ, List.getElem?_cons_zero, List.getElem?_cons_succ, Option.join_some, wipeE, if_true, if_false, reduceIte, Bool.false_eq_true, Bool.not_true, Bool.not_false, tst S2 fs2 _ _ _ _ F2, any_map, ha]
theorem lf_while (hU : (ns ++ css.flatten).length ≤ 900) (hnd : ∀ c ∈ css, c.Nodup) : ∀ (m : Nat) (fs : List Int) (S : Store) (x4 x5 x6 : Option D), ((ns ++ css.flatten).filter fun k => !decide (k ∈ fs)).length ≤ m → Fs css ns p S0 S fs →
    ∃ n r, whileD (mTest (mVar 3)) lfW n [some (csT css), x1, some (.ref p), some (.bl true), x4, x5, x6, x7] S = r ∧
      ((∃ S', r = .rt .non S' ∧ Bad css ns ∧ ∀ i, i ≠ p → S'[i]? = S0[i]?) ∨ ∃ y4 y5 y6 S' fs', r = .nx [some (csT css), x1, some (.ref p), some (.bl false), y4, y5, y6, x7] S' ∧ Fs css ns p S0 S' fs' ∧ ¬ Bad css ns ∧ ∀ k, Fc css ns k → k ∈ fs')
  | m, fs, S, x4, x5, x6, hm, F => by
    have cond : ∀ (b : Bool) (z4 z5 z6 : Option D) (S : Store), mTest (mVar 3) [some (csT css), x1, some (.ref p), some (.bl b), z4, z5, z6, x7] S = .ok b S := fun b z4 z5 z6 S => by simp only [e_fnRun, e_bnd, e_bndS, e_seq, e_if, e_ret, e_retN, e_set, e_expr, e_raise, e_nil, e_par, e_asg, e_sub, e_args0, e_args1, e_rt, e_some, e_var, e_k, e_call, e_un, e_op, e_test, e_boolD, e_bAnd, e_bOr, e_bNot, e_mAnd, e_mOr, e_mNot, e_mIf, e_chain, e_tup, e_lst, e_own, e_isN, e_notN, e_part, e_noPart, e_intD, e_sl, e_seqM, e_its, e_tupM, e_lstM, e_yes, e_el, e_gtN, e_gtNil, e_gtCons, e_gtTup, e_addI, e_subI, e_ltI, e_leI, e_gtI, e_geI, e_negI, e_lenT, e_lenL, e_tupT, e_tupL, e_lstT, e_slT, e_slL, e_ix0, e_ix1, e_ix2, e_il0, e_il1, e_il2, D.isNon, List.map_cons, List.map_nil, List.cons_append, List.nil_append, List.length_cons, List.length_nil, Nat.reduceAdd, Nat.reduceSub, List.replicate_succ, List.replicate_zero, List.set_cons_zero, List.set_cons_succ, List.getElem?_cons_zero, List.getElem?_cons_succ, Option.join_some, wipeE, if_true, if_false, reduceIte, Bool.false_eq_true, Bool.not_true, Bool.not_false]
    rcases lfW_ok (b := true) (x1 := x1) (x4 := x4) (x5 := x5) (x6 := x6) (x7 := x7) F hU hnd with ⟨S1, e1, bd, o1⟩ | ⟨y4, y5, y6, S1, e1, F1, q1, q2⟩ | ⟨y4, y5, y6, S1, fs1, l, e1, F1, q1, q2, q3⟩
    · refine ⟨1, _, rfl, .inl ⟨S1, ?_, bd, o1⟩⟩
      rw [e_while, e_bndS, cond]
      simp only [if_true, e1]
    · refine ⟨2, _, rfl, .inr ⟨y4, y5, y6, S1, fs, ?_, F1, q1, q2⟩⟩
      rw [e_while, e_bndS, cond]
      simp only [if_true, e1]
      rw [e_while, e_bndS, cond]
      simp only [Bool.false_eq_true, if_false]
    · have dec : ((ns ++ css.flatten).filter fun k => !decide (k ∈ fs1)).length < ((ns ++ css.flatten).filter fun k => !decide (k ∈ fs)).length := by
        refine filter_lt (l := l) (fun k hk => ?_) (F1.fc l q2).2 (by simpa using q1) (by simpa using q2)
        simp only [Bool.not_eq_true', decide_eq_false_iff_not] at hk ⊢
        exact fun z => hk (q3 k z)
      cases m with
      | zero => omega
      | succ m =>
        obtain ⟨n, r, w1, w2⟩ := lf_while hU hnd m fs1 S1 y4 y5 y6 (by omega) F1
        refine ⟨n + 1, r, ?_, w2⟩
        rw [e_while, e_bndS, cond]
        simp only [if_true, e1]
        exact w1
end
theorem law_forced_ok {S : Store} {css : List (List Int)} {ns : List Int} (hU : (ns ++ css.flatten).length ≤ 900) (hnd : ∀ c ∈ css, c.Nodup) (hn : ns.Nodup) :
    ∃ X S', m__law_forced [csT css, clT ns] S = .ok X S' ∧ Fd css ns X ∧ ∀ i, i < S.length → S'[i]? = S[i]? := by
  let S1 : Store := S ++ [.lst (ns.map .int)]
  have hS1 : S1[S.length]? = some (.lst (ns.map .int)) := by
    show (S ++ [_])[S.length]? = _
    rw [List.getElem?_append_right (Nat.le_refl _), Nat.sub_self]; rfl
  have o1 : ∀ i, i < S.length → S1[i]? = S[i]? := fun i hi => List.getElem?_append_left hi
  have F : Fs css ns S.length S1 S1 ns := ⟨hS1, hn, fun _ h => h, fun k hk => ⟨.base hk, List.mem_append_left _ hk⟩, fun _ _ => rfl⟩
  obtain ⟨n, r, w1, w2⟩ := lf_while (x1 := some (clT ns)) (x7 := none) hU hnd _ ns S1 none none none (Nat.le_refl _) F
  have hr : r ≠ .stuck := by
    rcases w2 with ⟨S', e, _⟩ | ⟨y4, y5, y6, S', fs', e, _⟩ <;> (rw [e]; intro z; cases z)
  have w3 := sWhile_of w1 hr
  unfold lfW lfA lfC at w3
  have hli : listO [clT ns] S = .ok (.ref S.length) S1 := rfl
  rcases w2 with ⟨S', rfl, bd, o2⟩ | ⟨y4, y5, y6, S', fs', rfl, F', nb, cl⟩
  · refine ⟨.non, S', ?_, .inl ⟨bd, rfl⟩, fun i hi => by rw [o2 i (by omega)]; exact o1 i hi⟩
    unfold m__law_forced
    simp only [e_fnRun, e_bnd, e_bndS, e_seq, e_if, e_ret, e_retN, e_set, e_expr, e_raise, e_nil, e_par, e_asg, e_sub, e_args0, e_args1, e_rt, e_some, e_var, e_k, e_call, e_un, e_op, e_test, e_boolD, e_bAnd, e_bOr, e_bNot, e_mAnd, e_mOr, e_mNot, e_mIf, e_chain, e_tup, e_lst, e_own, e_isN, e_notN, e_part, e_noPart, e_intD, e_sl, e_seqM, e_its, e_tupM, e_lstM, e_yes, e_el, e_gtN, e_gtNil, e_gtCons, e_gtTup, e_addI, e_subI, e_ltI, e_leI, e_gtI, e_geI, e_negI, e_lenT, e_lenL, e_tupT, e_tupL, e_lstT, e_slT, e_slL, e_ix0, e_ix1, e_ix2, e_il0, e_il1, e_il2, D.isNon, List.map_cons, List.map_nil, List.cons_append, List.nil_append, List.length_cons, List.length_nil, Nat.reduceAdd, Nat.reduceSub, List.replicate_succ, List.replicate_zero, List.set_cons_zero, List.set_cons_succ, List.getElem?_cons_zero, List.getElem?_cons_succ, Option.join_some, wipeE, if_true, if_false, reduceIte, Bool.false_eq_true, Bool.not_true, Bool.not_false, hli]
    rw [w3]
  · have hso : sortedI [.ref S.length] S' = .ok (.lst ((sortI fs').map .int)) S' := by simp only [sortedI, seq_ref F'.at_, intsOf_map]
    refine ⟨clT (sortI fs'), S', ?_, .inr ⟨nb, sortI fs', sortI_lt F'.nd, fun k => ?_, rfl⟩, fun i hi => by rw [F'.old i (by omega)]; exact o1 i hi⟩
    · unfold m__law_forced
      simp only [e_fnRun, e_bnd, e_bndS, e_seq, e_if, e_ret, e_retN, e_set, e_expr, e_raise, e_nil, e_par, e_asg, e_sub, e_args0, e_args1, e_rt, e_some, e_var, e_k, e_call, e_un, e_op, e_test, e_boolD, e_bAnd, e_bOr, e_bNot, e_mAnd, e_mOr, e_mNot, e_mIf, e_chain, e_tup, e_lst, e_own, e_isN, e_notN, e_part, e_noPart, e_intD, e_sl, e_seqM, e_its, e_tupM, e_lstM, e_yes, e_el, e_gtN, e_gtNil, e_gtCons, e_gtTup, e_addI, e_subI, e_ltI, e_leI, e_gtI, e_geI, e_negI, e_lenT, e_lenL, e_tupT, e_tupL, e_lstT, e_slT, e_slL, e_ix0, e_ix1, e_ix2, e_il0, e_il1, e_il2, D.isNon, List.map_cons, List.map_nil, List.cons_append, List.nil_append, List.length_cons, List.length_nil, Nat.reduceAdd, Nat.reduceSub, List.replicate_succ, List.replicate_zero, List.set_cons_zero, List.set_cons_succ, List.getElem?_cons_zero, List.getElem?_cons_succ, Option.join_some, wipeE, if_true, if_false, reduceIte, Bool.false_eq_true, Bool.not_true, Bool.not_false, hli]
      rw [w3]
      simp only [e_fnRun, e_bnd, e_bndS, e_seq, e_if, e_ret, e_retN, e_set, e_expr, e_raise, e_nil, e_par, e_asg, e_sub, e_args0, e_args1, e_rt, e_some, e_var, e_k, e_call, e_un, e_op, e_test, e_boolD, e_bAnd, e_bOr, e_bNot, e_mAnd, e_mOr, e_mNot, e_mIf, e_chain, e_tup, e_lst, e_own, e_isN, e_notN, e_part, e_noPart, e_intD, e_sl, e_seqM, e_its, e_tupM, e_lstM, e_yes, e_el, e_gtN, e_gtNil, e_gtCons, e_gtTup, e_addI, e_subI, e_ltI, e_leI, e_gtI, e_geI, e_negI, e_lenT, e_lenL, e_tupT, e_tupL, e_lstT, e_slT, e_slL, e_ix0, e_ix1, e_ix2, e_il0, e_il1, e_il2, D.isNon, List.map_cons, List.map_nil, List.cons_append, List.nil_append, List.length_cons, List.length_nil, Nat.reduceAdd, Nat.reduceSub, List.replicate_succ, List.replicate_zero, List.set_cons_zero, List.set_cons_succ, List.getElem?_cons_zero, List.getElem?_cons_succ, Option.join_some, wipeE, if_true, if_false, reduceIte, Bool.false_eq_true, Bool.not_true, Bool.not_false, hso]
    · rw [(sortI_perm fs').mem_iff]
      exact ⟨fun h => (F'.fc k h).1, cl k⟩
end K14

set_option Elab.async false
set_option maxRecDepth 100000
set_option linter.all false
set_option maxHeartbeats 4000000
namespace K14
open PySem hiding ret
open Mir
open Classical

/-! ### what is told when it is asked -/
def tell : R D → R D
  | .ok d S => .ok (.lst [d]) S
  | .err 0 S => .ok (.str "number") S
  | .err 1 S => .ok (.str "clauses") S
  | .err 2 S => .ok (.str "literals") S
  | _ => .stuck
theorem st_l (S : Store) : eqD (.str "literals") (.str "") S = .ok (.bl false) S := eq_str _ _ (by decide +kernel) (by decide +kernel) S
theorem ask0 (a b c : D) (S : Store) : m__law_ask [.int 0, .lst [a, b, c]] S = tell (m_forced [a, b, c] S) := by
  unfold m__law_ask
  simp only [e_fnRun, e_bnd, e_bndS, e_seq, e_if, e_ret, e_retN, e_set, e_expr, e_raise, e_nil, e_par, e_asg, e_sub, e_args0, e_args1, e_rt, e_some, e_var, e_k, e_call, e_un, e_op, e_test, e_boolD, e_bAnd, e_bOr, e_bNot, e_mAnd, e_mOr, e_mNot, e_mIf, e_chain, e_tup, e_lst, e_own, e_isN, e_notN, e_part, e_noPart, e_intD, e_sl, e_seqM, e_its, e_tupM, e_lstM, e_yes, e_el, e_gtN, e_gtNil, e_gtCons, e_gtTup, e_addI, e_subI, e_ltI, e_leI, e_gtI, e_geI, e_negI, e_lenT, e_lenL, e_tupT, e_tupL, e_lstT, e_slT, e_slL, e_ix0, e_ix1, e_ix2, e_il0, e_il1, e_il2, D.isNon, List.map_cons, List.map_nil, List.cons_append, List.nil_append, List.length_cons, List.length_nil, Nat.reduceAdd, Nat.reduceSub, List.replicate_succ, List.replicate_zero, List.set_cons_zero, List.set_cons_succ, List.getElem?_cons_zero, List.getElem?_cons_succ, Option.join_some, wipeE, if_true, if_false, reduceIte, Bool.false_eq_true, Bool.not_true, Bool.not_false, e_try, i00]
  cases q : m_forced [a, b, c] S with
  | ok d S' => simp only [e_fnRun, e_bnd, e_bndS, e_seq, e_if, e_ret, e_retN, e_set, e_expr, e_raise, e_nil, e_par, e_asg, e_sub, e_args0, e_args1, e_rt, e_some, e_var, e_k, e_call, e_un, e_op, e_test, e_boolD, e_bAnd, e_bOr, e_bNot, e_mAnd, e_mOr, e_mNot, e_mIf, e_chain, e_tup, e_lst, e_own, e_isN, e_notN, e_part, e_noPart, e_intD, e_sl, e_seqM, e_its, e_tupM, e_lstM, e_yes, e_el, e_gtN, e_gtNil, e_gtCons, e_gtTup, e_addI, e_subI, e_ltI, e_leI, e_gtI, e_geI, e_negI, e_lenT, e_lenL, e_tupT, e_tupL, e_lstT, e_slT, e_slL, e_ix0, e_ix1, e_ix2, e_il0, e_il1, e_il2, D.isNon, List.map_cons, List.map_nil, List.cons_append, List.nil_append, List.length_cons, List.length_nil, Nat.reduceAdd, Nat.reduceSub, List.replicate_succ, List.replicate_zero, List.set_cons_zero, List.set_cons_succ, List.getElem?_cons_zero, List.getElem?_cons_succ, Option.join_some, wipeE, if_true, if_false, reduceIte, Bool.false_eq_true, Bool.not_true, Bool.not_false, st_e, tell]
  | stuck => simp only [e_fnRun, e_bnd, e_bndS, e_seq, e_if, e_ret, e_retN, e_set, e_expr, e_raise, e_nil, e_par, e_asg, e_sub, e_args0, e_args1, e_rt, e_some, e_var, e_k, e_call, e_un, e_op, e_test, e_boolD, e_bAnd, e_bOr, e_bNot, e_mAnd, e_mOr, e_mNot, e_mIf, e_chain, e_tup, e_lst, e_own, e_isN, e_notN, e_part, e_noPart, e_intD, e_sl, e_seqM, e_its, e_tupM, e_lstM, e_yes, e_el, e_gtN, e_gtNil, e_gtCons, e_gtTup, e_addI, e_subI, e_ltI, e_leI, e_gtI, e_geI, e_negI, e_lenT, e_lenL, e_tupT, e_tupL, e_lstT, e_slT, e_slL, e_ix0, e_ix1, e_ix2, e_il0, e_il1, e_il2, D.isNon, List.map_cons, List.map_nil, List.cons_append, List.nil_append, List.length_cons, List.length_nil, Nat.reduceAdd, Nat.reduceSub, List.replicate_succ, List.replicate_zero, List.set_cons_zero, List.set_cons_succ, List.getElem?_cons_zero, List.getElem?_cons_succ, Option.join_some, wipeE, if_true, if_false, reduceIte, Bool.false_eq_true, Bool.not_true, Bool.not_false, tell]
  | err c S' =>
    match c with
    | 0 => simp only [e_fnRun, e_bnd, e_bndS, e_seq, e_if, e_ret, e_retN, e_set, e_expr, e_raise, e_nil, e_par, e_asg, e_sub, e_args0, e_args1, e_rt, e_some, e_var, e_k, e_call, e_un, e_op, e_test, e_boolD, e_bAnd, e_bOr, e_bNot, e_mAnd, e_mOr, e_mNot, e_mIf, e_chain, e_tup, e_lst, e_own, e_isN, e_notN, e_part, e_noPart, e_intD, e_sl, e_seqM, e_its, e_tupM, e_lstM, e_yes, e_el, e_gtN, e_gtNil, e_gtCons, e_gtTup, e_addI, e_subI, e_ltI, e_leI, e_gtI, e_geI, e_negI, e_lenT, e_lenL, e_tupT, e_tupL, e_lstT, e_slT, e_slL, e_ix0, e_ix1, e_ix2, e_il0, e_il1, e_il2, D.isNon, List.map_cons, List.map_nil, List.cons_append, List.nil_append, List.length_cons, List.length_nil, Nat.reduceAdd, Nat.reduceSub, List.replicate_succ, List.replicate_zero, List.set_cons_zero, List.set_cons_succ, List.getElem?_cons_zero, List.getElem?_cons_succ, Option.join_some, wipeE, if_true, if_false, reduceIte, Bool.false_eq_true, Bool.not_true, Bool.not_false, e_pick, e_quiet, Nat.reduceEqDiff, Nat.reduceLT, st_n, tell]
    | 1 => simp only [e_fnRun, e_bnd, e_bndS, e_seq, e_if, e_ret, e_retN, e_set, e_expr, e_raise, e_nil, e_par, e_asg, e_sub, e_args0, e_args1, e_rt, e_some, e_var, e_k, e_call, e_un, e_op, e_test, e_boolD, e_bAnd, e_bOr, e_bNot, e_mAnd, e_mOr, e_mNot, e_mIf, e_chain, e_tup, e_lst, e_own, e_isN, e_notN, e_part, e_noPart, e_intD, e_sl, e_seqM, e_its, e_tupM, e_lstM, e_yes, e_el, e_gtN, e_gtNil, e_gtCons, e_gtTup, e_addI, e_subI, e_ltI, e_leI, e_gtI, e_geI, e_negI, e_lenT, e_lenL, e_tupT, e_tupL, e_lstT, e_slT, e_slL, e_ix0, e_ix1, e_ix2, e_il0, e_il1, e_il2, D.isNon, List.map_cons, List.map_nil, List.cons_append, List.nil_append, List.length_cons, List.length_nil, Nat.reduceAdd, Nat.reduceSub, List.replicate_succ, List.replicate_zero, List.set_cons_zero, List.set_cons_succ, List.getElem?_cons_zero, List.getElem?_cons_succ, Option.join_some, wipeE, if_true, if_false, reduceIte, Bool.false_eq_true, Bool.not_true, Bool.not_false, e_pick, e_quiet, Nat.reduceEqDiff, Nat.reduceLT, st_cs, tell]
    | 2 => simp only [e_fnRun, e_bnd, e_bndS, e_seq, e_if, e_ret, e_retN, e_set, e_expr, e_raise, e_nil, e_par, e_asg, e_sub, e_args0, e_args1, e_rt, e_some, e_var, e_k, e_call, e_un, e_op, e_test, e_boolD, e_bAnd, e_bOr, e_bNot, e_mAnd, e_mOr, e_mNot, e_mIf, e_chain, e_tup, e_lst, e_own, e_isN, e_notN, e_part, e_noPart, e_intD, e_sl, e_seqM, e_its, e_tupM, e_lstM, e_yes, e_el, e_gtN, e_gtNil, e_gtCons, e_gtTup, e_addI, e_subI, e_ltI, e_leI, e_gtI, e_geI, e_negI, e_lenT, e_lenL, e_tupT, e_tupL, e_lstT, e_slT, e_slL, e_ix0, e_ix1, e_ix2, e_il0, e_il1, e_il2, D.isNon, List.map_cons, List.map_nil, List.cons_append, List.nil_append, List.length_cons, List.length_nil, Nat.reduceAdd, Nat.reduceSub, List.replicate_succ, List.replicate_zero, List.set_cons_zero, List.set_cons_succ, List.getElem?_cons_zero, List.getElem?_cons_succ, Option.join_some, wipeE, if_true, if_false, reduceIte, Bool.false_eq_true, Bool.not_true, Bool.not_false, e_pick, e_quiet, Nat.reduceEqDiff, Nat.reduceLT, st_l, tell]
    | n + 3 => simp only [e_fnRun, e_bnd, e_bndS, e_seq, e_if, e_ret, e_retN, e_set, e_expr, e_raise, e_nil, e_par, e_asg, e_sub, e_args0, e_args1, e_rt, e_some, e_var, e_k, e_call, e_un, e_op, e_test, e_boolD, e_bAnd, e_bOr, e_bNot, e_mAnd, e_mOr, e_mNot, e_mIf, e_chain, e_tup, e_lst, e_own, e_isN, e_notN, e_part, e_noPart, e_intD, e_sl, e_seqM, e_its, e_tupM, e_lstM, e_yes, e_el, e_gtN, e_gtNil, e_gtCons, e_gtTup, e_addI, e_subI, e_ltI, e_leI, e_gtI, e_geI, e_negI, e_lenT, e_lenL, e_tupT, e_tupL, e_lstT, e_slT, e_slL, e_ix0, e_ix1, e_ix2, e_il0, e_il1, e_il2, D.isNon, List.map_cons, List.map_nil, List.cons_append, List.nil_append, List.length_cons, List.length_nil, Nat.reduceAdd, Nat.reduceSub, List.replicate_succ, List.replicate_zero, List.set_cons_zero, List.set_cons_succ, List.getElem?_cons_zero, List.getElem?_cons_succ, Option.join_some, wipeE, if_true, if_false, reduceIte, Bool.false_eq_true, Bool.not_true, Bool.not_false, tell, show ¬ (n + 3 < 3) by omega]
theorem ask1 (a b c : D) (S : Store) : m__law_ask [.int 1, .lst [a, b, c]] S = tell (m_is_settled [a, b, c] S) := by
  unfold m__law_ask
  simp only [e_fnRun, e_bnd, e_bndS, e_seq, e_if, e_ret, e_retN, e_set, e_expr, e_raise, e_nil, e_par, e_asg, e_sub, e_args0, e_args1, e_rt, e_some, e_var, e_k, e_call, e_un, e_op, e_test, e_boolD, e_bAnd, e_bOr, e_bNot, e_mAnd, e_mOr, e_mNot, e_mIf, e_chain, e_tup, e_lst, e_own, e_isN, e_notN, e_part, e_noPart, e_intD, e_sl, e_seqM, e_its, e_tupM, e_lstM, e_yes, e_el, e_gtN, e_gtNil, e_gtCons, e_gtTup, e_addI, e_subI, e_ltI, e_leI, e_gtI, e_geI, e_negI, e_lenT, e_lenL, e_tupT, e_tupL, e_lstT, e_slT, e_slL, e_ix0, e_ix1, e_ix2, e_il0, e_il1, e_il2, D.isNon, List.map_cons, List.map_nil, List.cons_append, List.nil_append, List.length_cons, List.length_nil, Nat.reduceAdd, Nat.reduceSub, List.replicate_succ, List.replicate_zero, List.set_cons_zero, List.set_cons_succ, List.getElem?_cons_zero, List.getElem?_cons_succ, Option.join_some, wipeE, if_true, if_false, reduceIte, Bool.false_eq_true, Bool.not_true, Bool.not_false, e_try, i10, i11]
  cases q : m_is_settled [a, b, c] S with
  | ok d S' => simp only [e_fnRun, e_bnd, e_bndS, e_seq, e_if, e_ret, e_retN, e_set, e_expr, e_raise, e_nil, e_par, e_asg, e_sub, e_args0, e_args1, e_rt, e_some, e_var, e_k, e_call, e_un, e_op, e_test, e_boolD, e_bAnd, e_bOr, e_bNot, e_mAnd, e_mOr, e_mNot, e_mIf, e_chain, e_tup, e_lst, e_own, e_isN, e_notN, e_part, e_noPart, e_intD, e_sl, e_seqM, e_its, e_tupM, e_lstM, e_yes, e_el, e_gtN, e_gtNil, e_gtCons, e_gtTup, e_addI, e_subI, e_ltI, e_leI, e_gtI, e_geI, e_negI, e_lenT, e_lenL, e_tupT, e_tupL, e_lstT, e_slT, e_slL, e_ix0, e_ix1, e_ix2, e_il0, e_il1, e_il2, D.isNon, List.map_cons, List.map_nil, List.cons_append, List.nil_append, List.length_cons, List.length_nil, Nat.reduceAdd, Nat.reduceSub, List.replicate_succ, List.replicate_zero, List.set_cons_zero, List.set_cons_succ, List.getElem?_cons_zero, List.getElem?_cons_succ, Option.join_some, wipeE, if_true, if_false, reduceIte, Bool.false_eq_true, Bool.not_true, Bool.not_false, st_e, tell]
  | stuck => simp only [e_fnRun, e_bnd, e_bndS, e_seq, e_if, e_ret, e_retN, e_set, e_expr, e_raise, e_nil, e_par, e_asg, e_sub, e_args0, e_args1, e_rt, e_some, e_var, e_k, e_call, e_un, e_op, e_test, e_boolD, e_bAnd, e_bOr, e_bNot, e_mAnd, e_mOr, e_mNot, e_mIf, e_chain, e_tup, e_lst, e_own, e_isN, e_notN, e_part, e_noPart, e_intD, e_sl, e_seqM, e_its, e_tupM, e_lstM, e_yes, e_el, e_gtN, e_gtNil, e_gtCons, e_gtTup, e_addI, e_subI, e_ltI, e_leI, e_gtI, e_geI, e_negI, e_lenT, e_lenL, e_tupT, e_tupL, e_lstT, e_slT, e_slL, e_ix0, e_ix1, e_ix2, e_il0, e_il1, e_il2, D.isNon, List.map_cons, List.map_nil, List.cons_append, List.nil_append, List.length_cons, List.length_nil, Nat.reduceAdd, Nat.reduceSub, List.replicate_succ, List.replicate_zero, List.set_cons_zero, List.set_cons_succ, List.getElem?_cons_zero, List.getElem?_cons_succ, Option.join_some, wipeE, if_true, if_false, reduceIte, Bool.false_eq_true, Bool.not_true, Bool.not_false, tell]
  | err c S' =>
    match c with
    | 0 => simp only [e_fnRun, e_bnd, e_bndS, e_seq, e_if, e_ret, e_retN, e_set, e_expr, e_raise, e_nil, e_par, e_asg, e_sub, e_args0, e_args1, e_rt, e_some, e_var, e_k, e_call, e_un, e_op, e_test, e_boolD, e_bAnd, e_bOr, e_bNot, e_mAnd, e_mOr, e_mNot, e_mIf, e_chain, e_tup, e_lst, e_own, e_isN, e_notN, e_part, e_noPart, e_intD, e_sl, e_seqM, e_its, e_tupM, e_lstM, e_yes, e_el, e_gtN, e_gtNil, e_gtCons, e_gtTup, e_addI, e_subI, e_ltI, e_leI, e_gtI, e_geI, e_negI, e_lenT, e_lenL, e_tupT, e_tupL, e_lstT, e_slT, e_slL, e_ix0, e_ix1, e_ix2, e_il0, e_il1, e_il2, D.isNon, List.map_cons, List.map_nil, List.cons_append, List.nil_append, List.length_cons, List.length_nil, Nat.reduceAdd, Nat.reduceSub, List.replicate_succ, List.replicate_zero, List.set_cons_zero, List.set_cons_succ, List.getElem?_cons_zero, List.getElem?_cons_succ, Option.join_some, wipeE, if_true, if_false, reduceIte, Bool.false_eq_true, Bool.not_true, Bool.not_false, e_pick, e_quiet, Nat.reduceEqDiff, Nat.reduceLT, st_n, tell]
    | 1 => simp only [e_fnRun, e_bnd, e_bndS, e_seq, e_if, e_ret, e_retN, e_set, e_expr, e_raise, e_nil, e_par, e_asg, e_sub, e_args0, e_args1, e_rt, e_some, e_var, e_k, e_call, e_un, e_op, e_test, e_boolD, e_bAnd, e_bOr, e_bNot, e_mAnd, e_mOr, e_mNot, e_mIf, e_chain, e_tup, e_lst, e_own, e_isN, e_notN, e_part, e_noPart, e_intD, e_sl, e_seqM, e_its, e_tupM, e_lstM, e_yes, e_el, e_gtN, e_gtNil, e_gtCons, e_gtTup, e_addI, e_subI, e_ltI, e_leI, e_gtI, e_geI, e_negI, e_lenT, e_lenL, e_tupT, e_tupL, e_lstT, e_slT, e_slL, e_ix0, e_ix1, e_ix2, e_il0, e_il1, e_il2, D.isNon, List.map_cons, List.map_nil, List.cons_append, List.nil_append, List.length_cons, List.length_nil, Nat.reduceAdd, Nat.reduceSub, List.replicate_succ, List.replicate_zero, List.set_cons_zero, List.set_cons_succ, List.getElem?_cons_zero, List.getElem?_cons_succ, Option.join_some, wipeE, if_true, if_false, reduceIte, Bool.false_eq_true, Bool.not_true, Bool.not_false, e_pick, e_quiet, Nat.reduceEqDiff, Nat.reduceLT, st_cs, tell]
    | 2 => simp only [e_fnRun, e_bnd, e_bndS, e_seq, e_if, e_ret, e_retN, e_set, e_expr, e_raise, e_nil, e_par, e_asg, e_sub, e_args0, e_args1, e_rt, e_some, e_var, e_k, e_call, e_un, e_op, e_test, e_boolD, e_bAnd, e_bOr, e_bNot, e_mAnd, e_mOr, e_mNot, e_mIf, e_chain, e_tup, e_lst, e_own, e_isN, e_notN, e_part, e_noPart, e_intD, e_sl, e_seqM, e_its, e_tupM, e_lstM, e_yes, e_el, e_gtN, e_gtNil, e_gtCons, e_gtTup, e_addI, e_subI, e_ltI, e_leI, e_gtI, e_geI, e_negI, e_lenT, e_lenL, e_tupT, e_tupL, e_lstT, e_slT, e_slL, e_ix0, e_ix1, e_ix2, e_il0, e_il1, e_il2, D.isNon, List.map_cons, List.map_nil, List.cons_append, List.nil_append, List.length_cons, List.length_nil, Nat.reduceAdd, Nat.reduceSub, List.replicate_succ, List.replicate_zero, List.set_cons_zero, List.set_cons_succ, List.getElem?_cons_zero, List.getElem?_cons_succ, Option.join_some, wipeE, if_true, if_false, reduceIte, Bool.false_eq_true, Bool.not_true, Bool.not_false, e_pick, e_quiet, Nat.reduceEqDiff, Nat.reduceLT, st_l, tell]
    | n + 3 => simp only [e_fnRun, e_bnd, e_bndS, e_seq, e_if, e_ret, e_retN, e_set, e_expr, e_raise, e_nil, e_par, e_asg, e_sub, e_args0, e_args1, e_rt, e_some, e_var, e_k, e_call, e_un, e_op, e_test, e_boolD, e_bAnd, e_bOr, e_bNot, e_mAnd, e_mOr, e_mNot, e_mIf, e_chain, e_tup, e_lst, e_own, e_isN, e_notN, e_part, e_noPart, e_intD, e_sl, e_seqM, e_its, e_tupM, e_lstM, e_yes, e_el, e_gtN, e_gtNil, e_gtCons, e_gtTup, e_addI, e_subI, e_ltI, e_leI, e_gtI, e_geI, e_negI, e_lenT, e_lenL, e_tupT, e_tupL, e_lstT, e_slT, e_slL, e_ix0, e_ix1, e_ix2, e_il0, e_il1, e_il2, D.isNon, List.map_cons, List.map_nil, List.cons_append, List.nil_append, List.length_cons, List.length_nil, Nat.reduceAdd, Nat.reduceSub, List.replicate_succ, List.replicate_zero, List.set_cons_zero, List.set_cons_succ, List.getElem?_cons_zero, List.getElem?_cons_succ, Option.join_some, wipeE, if_true, if_false, reduceIte, Bool.false_eq_true, Bool.not_true, Bool.not_false, tell, show ¬ (n + 3 < 3) by omega]
theorem ask2 (a b : D) (l : List D) (S : Store) : m__law_ask [.int 2, .lst (a :: b :: l)] S = tell (m_probes [a, b] S) := by
  unfold m__law_ask
  simp only [e_fnRun, e_bnd, e_bndS, e_seq, e_if, e_ret, e_retN, e_set, e_expr, e_raise, e_nil, e_par, e_asg, e_sub, e_args0, e_args1, e_rt, e_some, e_var, e_k, e_call, e_un, e_op, e_test, e_boolD, e_bAnd, e_bOr, e_bNot, e_mAnd, e_mOr, e_mNot, e_mIf, e_chain, e_tup, e_lst, e_own, e_isN, e_notN, e_part, e_noPart, e_intD, e_sl, e_seqM, e_its, e_tupM, e_lstM, e_yes, e_el, e_gtN, e_gtNil, e_gtCons, e_gtTup, e_addI, e_subI, e_ltI, e_leI, e_gtI, e_geI, e_negI, e_lenT, e_lenL, e_tupT, e_tupL, e_lstT, e_slT, e_slL, e_ix0, e_ix1, e_ix2, e_il0, e_il1, e_il2, D.isNon, List.map_cons, List.map_nil, List.cons_append, List.nil_append, List.length_cons, List.length_nil, Nat.reduceAdd, Nat.reduceSub, List.replicate_succ, List.replicate_zero, List.set_cons_zero, List.set_cons_succ, List.getElem?_cons_zero, List.getElem?_cons_succ, Option.join_some, wipeE, if_true, if_false, reduceIte, Bool.false_eq_true, Bool.not_true, Bool.not_false, e_try, i20, i21]
  cases q : m_probes [a, b] S with
  | ok d S' => simp only [e_fnRun, e_bnd, e_bndS, e_seq, e_if, e_ret, e_retN, e_set, e_expr, e_raise, e_nil, e_par, e_asg, e_sub, e_args0, e_args1, e_rt, e_some, e_var, e_k, e_call, e_un, e_op, e_test, e_boolD, e_bAnd, e_bOr, e_bNot, e_mAnd, e_mOr, e_mNot, e_mIf, e_chain, e_tup, e_lst, e_own, e_isN, e_notN, e_part, e_noPart, e_intD, e_sl, e_seqM, e_its, e_tupM, e_lstM, e_yes, e_el, e_gtN, e_gtNil, e_gtCons, e_gtTup, e_addI, e_subI, e_ltI, e_leI, e_gtI, e_geI, e_negI, e_lenT, e_lenL, e_tupT, e_tupL, e_lstT, e_slT, e_slL, e_ix0, e_ix1, e_ix2, e_il0, e_il1, e_il2, D.isNon, List.map_cons, List.map_nil, List.cons_append, List.nil_append, List.length_cons, List.length_nil, Nat.reduceAdd, Nat.reduceSub, List.replicate_succ, List.replicate_zero, List.set_cons_zero, List.set_cons_succ, List.getElem?_cons_zero, List.getElem?_cons_succ, Option.join_some, wipeE, if_true, if_false, reduceIte, Bool.false_eq_true, Bool.not_true, Bool.not_false, st_e, tell]
  | stuck => simp only [e_fnRun, e_bnd, e_bndS, e_seq, e_if, e_ret, e_retN, e_set, e_expr, e_raise, e_nil, e_par, e_asg, e_sub, e_args0, e_args1, e_rt, e_some, e_var, e_k, e_call, e_un, e_op, e_test, e_boolD, e_bAnd, e_bOr, e_bNot, e_mAnd, e_mOr, e_mNot, e_mIf, e_chain, e_tup, e_lst, e_own, e_isN, e_notN, e_part, e_noPart, e_intD, e_sl, e_seqM, e_its, e_tupM, e_lstM, e_yes, e_el, e_gtN, e_gtNil, e_gtCons, e_gtTup, e_addI, e_subI, e_ltI, e_leI, e_gtI, e_geI, e_negI, e_lenT, e_lenL, e_tupT, e_tupL, e_lstT, e_slT, e_slL, e_ix0, e_ix1, e_ix2, e_il0, e_il1, e_il2, D.isNon, List.map_cons, List.map_nil, List.cons_append, List.nil_append, List.length_cons, List.length_nil, Nat.reduceAdd, Nat.reduceSub, List.replicate_succ, List.replicate_zero, List.set_cons_zero, List.set_cons_succ, List.getElem?_cons_zero, List.getElem?_cons_succ, Option.join_some, wipeE, if_true, if_false, reduceIte, Bool.false_eq_true, Bool.not_true, Bool.not_false, tell]
  | err c S' =>
    match c with
    | 0 => simp only [e_fnRun, e_bnd, e_bndS, e_seq, e_if, e_ret, e_retN, e_set, e_expr, e_raise, e_nil, e_par, e_asg, e_sub, e_args0, e_args1, e_rt, e_some, e_var, e_k, e_call, e_un, e_op, e_test, e_boolD, e_bAnd, e_bOr, e_bNot, e_mAnd, e_mOr, e_mNot, e_mIf, e_chain, e_tup, e_lst, e_own, e_isN, e_notN, e_part, e_noPart, e_intD, e_sl, e_seqM, e_its, e_tupM, e_lstM, e_yes, e_el, e_gtN, e_gtNil, e_gtCons, e_gtTup, e_addI, e_subI, e_ltI, e_leI, e_gtI, e_geI, e_negI, e_lenT, e_lenL, e_tupT, e_tupL, e_lstT, e_slT, e_slL, e_ix0, e_ix1, e_ix2, e_il0, e_il1, e_il2, D.isNon, List.map_cons, List.map_nil, List.cons_append, List.nil_append, List.length_cons, List.length_nil, Nat.reduceAdd, Nat.reduceSub, List.replicate_succ, List.replicate_zero, List.set_cons_zero, List.set_cons_succ, List.getElem?_cons_zero, List.getElem?_cons_succ, Option.join_some, wipeE, if_true, if_false, reduceIte, Bool.false_eq_true, Bool.not_true, Bool.not_false, e_pick, e_quiet, Nat.reduceEqDiff, Nat.reduceLT, st_n, tell]
    | 1 => simp only [e_fnRun, e_bnd, e_bndS, e_seq, e_if, e_ret, e_retN, e_set, e_expr, e_raise, e_nil, e_par, e_asg, e_sub, e_args0, e_args1, e_rt, e_some, e_var, e_k, e_call, e_un, e_op, e_test, e_boolD, e_bAnd, e_bOr, e_bNot, e_mAnd, e_mOr, e_mNot, e_mIf, e_chain, e_tup, e_lst, e_own, e_isN, e_notN, e_part, e_noPart, e_intD, e_sl, e_seqM, e_its, e_tupM, e_lstM, e_yes, e_el, e_gtN, e_gtNil, e_gtCons, e_gtTup, e_addI, e_subI, e_ltI, e_leI, e_gtI, e_geI, e_negI, e_lenT, e_lenL, e_tupT, e_tupL, e_lstT, e_slT, e_slL, e_ix0, e_ix1, e_ix2, e_il0, e_il1, e_il2, D.isNon, List.map_cons, List.map_nil, List.cons_append, List.nil_append, List.length_cons, List.length_nil, Nat.reduceAdd, Nat.reduceSub, List.replicate_succ, List.replicate_zero, List.set_cons_zero, List.set_cons_succ, List.getElem?_cons_zero, List.getElem?_cons_succ, Option.join_some, wipeE, if_true, if_false, reduceIte, Bool.false_eq_true, Bool.not_true, Bool.not_false, e_pick, e_quiet, Nat.reduceEqDiff, Nat.reduceLT, st_cs, tell]
    | 2 => simp only [e_fnRun, e_bnd, e_bndS, e_seq, e_if, e_ret, e_retN, e_set, e_expr, e_raise, e_nil, e_par, e_asg, e_sub, e_args0, e_args1, e_rt, e_some, e_var, e_k, e_call, e_un, e_op, e_test, e_boolD, e_bAnd, e_bOr, e_bNot, e_mAnd, e_mOr, e_mNot, e_mIf, e_chain, e_tup, e_lst, e_own, e_isN, e_notN, e_part, e_noPart, e_intD, e_sl, e_seqM, e_its, e_tupM, e_lstM, e_yes, e_el, e_gtN, e_gtNil, e_gtCons, e_gtTup, e_addI, e_subI, e_ltI, e_leI, e_gtI, e_geI, e_negI, e_lenT, e_lenL, e_tupT, e_tupL, e_lstT, e_slT, e_slL, e_ix0, e_ix1, e_ix2, e_il0, e_il1, e_il2, D.isNon, List.map_cons, List.map_nil, List.cons_append, List.nil_append, List.length_cons, List.length_nil, Nat.reduceAdd, Nat.reduceSub, List.replicate_succ, List.replicate_zero, List.set_cons_zero, List.set_cons_succ, List.getElem?_cons_zero, List.getElem?_cons_succ, Option.join_some, wipeE, if_true, if_false, reduceIte, Bool.false_eq_true, Bool.not_true, Bool.not_false, e_pick, e_quiet, Nat.reduceEqDiff, Nat.reduceLT, st_l, tell]
    | n + 3 => simp only [e_fnRun, e_bnd, e_bndS, e_seq, e_if, e_ret, e_retN, e_set, e_expr, e_raise, e_nil, e_par, e_asg, e_sub, e_args0, e_args1, e_rt, e_some, e_var, e_k, e_call, e_un, e_op, e_test, e_boolD, e_bAnd, e_bOr, e_bNot, e_mAnd, e_mOr, e_mNot, e_mIf, e_chain, e_tup, e_lst, e_own, e_isN, e_notN, e_part, e_noPart, e_intD, e_sl, e_seqM, e_its, e_tupM, e_lstM, e_yes, e_el, e_gtN, e_gtNil, e_gtCons, e_gtTup, e_addI, e_subI, e_ltI, e_leI, e_gtI, e_geI, e_negI, e_lenT, e_lenL, e_tupT, e_tupL, e_lstT, e_slT, e_slL, e_ix0, e_ix1, e_ix2, e_il0, e_il1, e_il2, D.isNon, List.map_cons, List.map_nil, List.cons_append, List.nil_append, List.length_cons, List.length_nil, Nat.reduceAdd, Nat.reduceSub, List.replicate_succ, List.replicate_zero, List.set_cons_zero, List.set_cons_succ, List.getElem?_cons_zero, List.getElem?_cons_succ, Option.join_some, wipeE, if_true, if_false, reduceIte, Bool.false_eq_true, Bool.not_true, Bool.not_false, tell, show ¬ (n + 3 < 3) by omega]

/-! ### the checks -/
theorem count_ok {c : Int} (h : 0 ≤ c) (S : Store) : m_check_count [.int c] S = .ok .non S := by
  unfold m_check_count
  simp only [e_fnRun, e_bnd, e_bndS, e_seq, e_if, e_ret, e_retN, e_set, e_expr, e_raise, e_nil, e_par, e_asg, e_sub, e_args0, e_args1, e_rt, e_some, e_var, e_k, e_call, e_un, e_op, e_test, e_boolD, e_bAnd, e_bOr, e_bNot, e_mAnd, e_mOr, e_mNot, e_mIf, e_chain, e_tup, e_lst, e_own, e_isN, e_notN, e_part, e_noPart, e_intD, e_sl, e_seqM, e_its, e_tupM, e_lstM, e_yes, e_el, e_gtN, e_gtNil, e_gtCons, e_gtTup, e_addI, e_subI, e_ltI, e_leI, e_gtI, e_geI, e_negI, e_lenT, e_lenL, e_tupT, e_tupL, e_lstT, e_slT, e_slL, e_ix0, e_ix1, e_ix2, e_il0, e_il1, e_il2, D.isNon, List.map_cons, List.map_nil, List.cons_append, List.nil_append, List.length_cons, List.length_nil, Nat.reduceAdd, Nat.reduceSub, List.replicate_succ, List.replicate_zero, List.set_cons_zero, List.set_cons_succ, List.getElem?_cons_zero, List.getElem?_cons_succ, Option.join_some, wipeE, if_true, if_false, reduceIte, Bool.false_eq_true, Bool.not_true, Bool.not_false, is_integer_ok (v := .int c) rfl, isInt]
  rw [decide_eq_false (by omega)]
  simp only [e_fnRun, e_bnd, e_bndS, e_seq, e_if, e_ret, e_retN, e_set, e_expr, e_raise, e_nil, e_par, e_asg, e_sub, e_args0, e_args1, e_rt, e_some, e_var, e_k, e_call, e_un, e_op, e_test, e_boolD, e_bAnd, e_bOr, e_bNot, e_mAnd, e_mOr, e_mNot, e_mIf, e_chain, e_tup, e_lst, e_own, e_isN, e_notN, e_part, e_noPart, e_intD, e_sl, e_seqM, e_its, e_tupM, e_lstM, e_yes, e_el, e_gtN, e_gtNil, e_gtCons, e_gtTup, e_addI, e_subI, e_ltI, e_leI, e_gtI, e_geI, e_negI, e_lenT, e_lenL, e_tupT, e_tupL, e_lstT, e_slT, e_slL, e_ix0, e_ix1, e_ix2, e_il0, e_il1, e_il2, D.isNon, List.map_cons, List.map_nil, List.cons_append, List.nil_append, List.length_cons, List.length_nil, Nat.reduceAdd, Nat.reduceSub, List.replicate_succ, List.replicate_zero, List.set_cons_zero, List.set_cons_succ, List.getElem?_cons_zero, List.getElem?_cons_succ, Option.join_some, wipeE, if_true, if_false, reduceIte, Bool.false_eq_true, Bool.not_true, Bool.not_false]
theorem count_bad {d : D} (hd : Ty d = true) (hi : ∀ i, d = .int i → i < 0) (S : Store) : m_check_count [d] S = .err 0 S := by
  unfold m_check_count
  cases d with
  | int i => simp only [e_fnRun, e_bnd, e_bndS, e_seq, e_if, e_ret, e_retN, e_set, e_expr, e_raise, e_nil, e_par, e_asg, e_sub, e_args0, e_args1, e_rt, e_some, e_var, e_k, e_call, e_un, e_op, e_test, e_boolD, e_bAnd, e_bOr, e_bNot, e_mAnd, e_mOr, e_mNot, e_mIf, e_chain, e_tup, e_lst, e_own, e_isN, e_notN, e_part, e_noPart, e_intD, e_sl, e_seqM, e_its, e_tupM, e_lstM, e_yes, e_el, e_gtN, e_gtNil, e_gtCons, e_gtTup, e_addI, e_subI, e_ltI, e_leI, e_gtI, e_geI, e_negI, e_lenT, e_lenL, e_tupT, e_tupL, e_lstT, e_slT, e_slL, e_ix0, e_ix1, e_ix2, e_il0, e_il1, e_il2, D.isNon, List.map_cons, List.map_nil, List.cons_append, List.nil_append, List.length_cons, List.length_nil, Nat.reduceAdd, Nat.reduceSub, List.replicate_succ, List.replicate_zero, List.set_cons_zero, List.set_cons_succ, List.getElem?_cons_zero, List.getElem?_cons_succ, Option.join_some, wipeE, if_true, if_false, reduceIte, Bool.false_eq_true, Bool.not_true, Bool.not_false, is_integer_ok hd, isInt, hi i rfl, decide_true]
  | ty n => cases hd
  | ref n => cases hd
  | _ => simp only [e_fnRun, e_bnd, e_bndS, e_seq, e_if, e_ret, e_retN, e_set, e_expr, e_raise, e_nil, e_par, e_asg, e_sub, e_args0, e_args1, e_rt, e_some, e_var, e_k, e_call, e_un, e_op, e_test, e_boolD, e_bAnd, e_bOr, e_bNot, e_mAnd, e_mOr, e_mNot, e_mIf, e_chain, e_tup, e_lst, e_own, e_isN, e_notN, e_part, e_noPart, e_intD, e_sl, e_seqM, e_its, e_tupM, e_lstM, e_yes, e_el, e_gtN, e_gtNil, e_gtCons, e_gtTup, e_addI, e_subI, e_ltI, e_leI, e_gtI, e_geI, e_negI, e_lenT, e_lenL, e_tupT, e_tupL, e_lstT, e_slT, e_slL, e_ix0, e_ix1, e_ix2, e_il0, e_il1, e_il2, D.isNon, List.map_cons, List.map_nil, List.cons_append, List.nil_append, List.length_cons, List.length_nil, Nat.reduceAdd, Nat.reduceSub, List.replicate_succ, List.replicate_zero, List.set_cons_zero, List.set_cons_succ, List.getElem?_cons_zero, List.getElem?_cons_succ, Option.join_some, wipeE, if_true, if_false, reduceIte, Bool.false_eq_true, Bool.not_true, Bool.not_false, is_integer_ok hd, isInt]
/-- a value whose items can be told by is_integer_clause -/
def Cw (v : D) : Prop := Ty v = true ∧ ∀ xs, v = .tup xs → ∀ x ∈ xs, Pt x
noncomputable def clsOk (c : Int) : D → Bool
  | .tup xs => xs.all (clD (Cl c))
  | _ => false
theorem check_clauses_ok {c : Int} {v : D} (hc : 0 ≤ c) (h : Cw v) (S : Store) : m_check_clauses [.int c, v] S = if clsOk c v = true then .ok .non S else .err 1 S := by
  obtain ⟨hT, hx⟩ := h
  unfold m_check_clauses
  cases v with
  | ty n => cases hT
  | ref n => cases hT
  | tup xs =>
    have h1 : mLc [2] (mSeq (mVar 1)) (gtN 2) bYes (mCall m_is_integer_clause [(mVar 0), (mVar 2)]) resF [some (.int c), some (.tup xs), none] S = .ok (.lst (xs.map fun d => .bl (clD (Cl c) d))) S :=
      mLcT_map (by simp only [e_fnRun, e_bnd, e_bndS, e_seq, e_if, e_ret, e_retN, e_set, e_expr, e_raise, e_nil, e_par, e_asg, e_sub, e_args0, e_args1, e_rt, e_some, e_var, e_k, e_call, e_un, e_op, e_test, e_boolD, e_bAnd, e_bOr, e_bNot, e_mAnd, e_mOr, e_mNot, e_mIf, e_chain, e_tup, e_lst, e_own, e_isN, e_notN, e_part, e_noPart, e_intD, e_sl, e_seqM, e_its, e_tupM, e_lstM, e_yes, e_el, e_gtN, e_gtNil, e_gtCons, e_gtTup, e_addI, e_subI, e_ltI, e_leI, e_gtI, e_geI, e_negI, e_lenT, e_lenL, e_tupT, e_tupL, e_lstT, e_slT, e_slL, e_ix0, e_ix1, e_ix2, e_il0, e_il1, e_il2, D.isNon, List.map_cons, List.map_nil, List.cons_append, List.nil_append, List.length_cons, List.length_nil, Nat.reduceAdd, Nat.reduceSub, List.replicate_succ, List.replicate_zero, List.set_cons_zero, List.set_cons_succ, List.getElem?_cons_zero, List.getElem?_cons_succ, Option.join_some, wipeE, if_true, if_false, reduceIte, Bool.false_eq_true, Bool.not_true, Bool.not_false]) _ fun d hd => by simp only [e_fnRun, e_bnd, e_bndS, e_seq, e_if, e_ret, e_retN, e_set, e_expr, e_raise, e_nil, e_par, e_asg, e_sub, e_args0, e_args1, e_rt, e_some, e_var, e_k, e_call, e_un, e_op, e_test, e_boolD, e_bAnd, e_bOr, e_bNot, e_mAnd, e_mOr, e_mNot, e_mIf, e_chain, e_tup, e_lst, e_own, e_isN, e_notN, e_part, e_noPart, e_intD, e_sl, e_seqM, e_its, e_tupM, e_lstM, e_yes, e_el, e_gtN, e_gtNil, e_gtCons, e_gtTup, e_addI, e_subI, e_ltI, e_leI, e_gtI, e_geI, e_negI, e_lenT, e_lenL, e_tupT, e_tupL, e_lstT, e_slT, e_slL, e_ix0, e_ix1, e_ix2, e_il0, e_il1, e_il2, D.isNon, List.map_cons, List.map_nil, List.cons_append, List.nil_append, List.length_cons, List.length_nil, Nat.reduceAdd, Nat.reduceSub, List.replicate_succ, List.replicate_zero, List.set_cons_zero, List.set_cons_succ, List.getElem?_cons_zero, List.getElem?_cons_succ, Option.join_some, wipeE, if_true, if_false, reduceIte, Bool.false_eq_true, Bool.not_true, Bool.not_false, is_integer_clause_ok (hx xs rfl d hd)]
    cases ha : xs.all (clD (Cl c)) with
    | true => simp only [e_fnRun, e_bnd, e_bndS, e_seq, e_if, e_ret, e_retN, e_set, e_expr, e_raise, e_nil, e_par, e_asg, e_sub, e_args0, e_args1, e_rt, e_some, e_var, e_k, e_call, e_un, e_op, e_test, e_boolD, e_bAnd, e_bOr, e_bNot, e_mAnd, e_mOr, e_mNot, e_mIf, e_chain, e_tup, e_lst, e_own, e_isN, e_notN, e_part, e_noPart, e_intD, e_sl, e_seqM, e_its, e_tupM, e_lstM, e_yes, e_el, e_gtN, e_gtNil, e_gtCons, e_gtTup, e_addI, e_subI, e_ltI, e_leI, e_gtI, e_geI, e_negI, e_lenT, e_lenL, e_tupT, e_tupL, e_lstT, e_slT, e_slL, e_ix0, e_ix1, e_ix2, e_il0, e_il1, e_il2, D.isNon, List.map_cons, List.map_nil, List.cons_append, List.nil_append, List.length_cons, List.length_nil, Nat.reduceAdd, Nat.reduceSub, List.replicate_succ, List.replicate_zero, List.set_cons_zero, List.set_cons_succ, List.getElem?_cons_zero, List.getElem?_cons_succ, Option.join_some, wipeE, if_true, if_false, reduceIte, Bool.false_eq_true, Bool.not_true, Bool.not_false, count_ok hc, ty_tup hT, isTup, h1, all_map, ha, clsOk]
    | false => simp only [e_fnRun, e_bnd, e_bndS, e_seq, e_if, e_ret, e_retN, e_set, e_expr, e_raise, e_nil, e_par, e_asg, e_sub, e_args0, e_args1, e_rt, e_some, e_var, e_k, e_call, e_un, e_op, e_test, e_boolD, e_bAnd, e_bOr, e_bNot, e_mAnd, e_mOr, e_mNot, e_mIf, e_chain, e_tup, e_lst, e_own, e_isN, e_notN, e_part, e_noPart, e_intD, e_sl, e_seqM, e_its, e_tupM, e_lstM, e_yes, e_el, e_gtN, e_gtNil, e_gtCons, e_gtTup, e_addI, e_subI, e_ltI, e_leI, e_gtI, e_geI, e_negI, e_lenT, e_lenL, e_tupT, e_tupL, e_lstT, e_slT, e_slL, e_ix0, e_ix1, e_ix2, e_il0, e_il1, e_il2, D.isNon, List.map_cons, List.map_nil, List.cons_append, List.nil_append, List.length_cons, List.length_nil, Nat.reduceAdd, Nat.reduceSub, List.replicate_succ, List.replicate_zero, List.set_cons_zero, List.set_cons_succ, List.getElem?_cons_zero, List.getElem?_cons_succ, Option.join_some, wipeE, if_true, if_false, reduceIte, Bool.false_eq_true, Bool.not_true, Bool.not_false, count_ok hc, ty_tup hT, isTup, h1, all_map, ha, clsOk]
  | _ => simp only [e_fnRun, e_bnd, e_bndS, e_seq, e_if, e_ret, e_retN, e_set, e_expr, e_raise, e_nil, e_par, e_asg, e_sub, e_args0, e_args1, e_rt, e_some, e_var, e_k, e_call, e_un, e_op, e_test, e_boolD, e_bAnd, e_bOr, e_bNot, e_mAnd, e_mOr, e_mNot, e_mIf, e_chain, e_tup, e_lst, e_own, e_isN, e_notN, e_part, e_noPart, e_intD, e_sl, e_seqM, e_its, e_tupM, e_lstM, e_yes, e_el, e_gtN, e_gtNil, e_gtCons, e_gtTup, e_addI, e_subI, e_ltI, e_leI, e_gtI, e_geI, e_negI, e_lenT, e_lenL, e_tupT, e_tupL, e_lstT, e_slT, e_slL, e_ix0, e_ix1, e_ix2, e_il0, e_il1, e_il2, D.isNon, List.map_cons, List.map_nil, List.cons_append, List.nil_append, List.length_cons, List.length_nil, Nat.reduceAdd, Nat.reduceSub, List.replicate_succ, List.replicate_zero, List.set_cons_zero, List.set_cons_succ, List.getElem?_cons_zero, List.getElem?_cons_succ, Option.join_some, wipeE, if_true, if_false, reduceIte, Bool.false_eq_true, Bool.not_true, Bool.not_false, count_ok hc, ty_tup hT, isTup, clsOk]
theorem check_literals_ok {c : Int} {v : D} (h : Pt v) (S : Store) : m_check_literals [.int c, v] S = if clD (Cl c) v = true then .ok .non S else .err 2 S := by
  unfold m_check_literals
  cases ha : clD (Cl c) v <;> (have e := is_integer_clause_ok (c := c) h S; rw [ha] at e; simp only [e_fnRun, e_bnd, e_bndS, e_seq, e_if, e_ret, e_retN, e_set, e_expr, e_raise, e_nil, e_par, e_asg, e_sub, e_args0, e_args1, e_rt, e_some, e_var, e_k, e_call, e_un, e_op, e_test, e_boolD, e_bAnd, e_bOr, e_bNot, e_mAnd, e_mOr, e_mNot, e_mIf, e_chain, e_tup, e_lst, e_own, e_isN, e_notN, e_part, e_noPart, e_intD, e_sl, e_seqM, e_its, e_tupM, e_lstM, e_yes, e_el, e_gtN, e_gtNil, e_gtCons, e_gtTup, e_addI, e_subI, e_ltI, e_leI, e_gtI, e_geI, e_negI, e_lenT, e_lenL, e_tupT, e_tupL, e_lstT, e_slT, e_slL, e_ix0, e_ix1, e_ix2, e_il0, e_il1, e_il2, D.isNon, List.map_cons, List.map_nil, List.cons_append, List.nil_append, List.length_cons, List.length_nil, Nat.reduceAdd, Nat.reduceSub, List.replicate_succ, List.replicate_zero, List.set_cons_zero, List.set_cons_succ, List.getElem?_cons_zero, List.getElem?_cons_succ, Option.join_some, wipeE, if_true, if_false, reduceIte, Bool.false_eq_true, Bool.not_true, Bool.not_false, e])
/-- clauses of up to eight words -/
structure Cs (c : Int) (css : List (List Int)) : Prop where
  c0 : 1 ≤ c
  c1 : c ≤ 8
  few : css.length ≤ 20
  cl : ∀ ns ∈ css, Cl c ns ∧ ns.length ≤ 3
theorem ty_intsD (ns : List Int) : ∀ x ∈ ns.map D.int, Ty x = true := fun x hx => by
  obtain ⟨k, _, rfl⟩ := List.mem_map.mp hx
  rfl
theorem pt_cl {ns : List Int} (h : ns.length ≤ 50) : Pt (clT ns) := ⟨rfl, fun xs e => by cases e; exact ⟨by rw [List.length_map]; exact h, ty_intsD ns⟩⟩
theorem flat_len : ∀ {css : List (List Int)}, (∀ ns ∈ css, ns.length ≤ 3) → css.flatten.length ≤ 3 * css.length
  | [], _ => by simp
  | c :: css, h => by
    have := flat_len fun ns hn => h ns (List.mem_cons_of_mem _ hn)
    have := h c List.mem_cons_self
    simp only [List.flatten_cons, List.length_append, List.length_cons]
    omega
section
variable {c : Int} {css : List (List Int)} {S : Store}
theorem Cs.cw (h : Cs c css) : Cw (csT css) := ⟨rfl, fun xs e x hx => by
  cases e
  obtain ⟨ns, hn, rfl⟩ := List.mem_map.mp hx
  exact pt_cl (by have := (h.cl ns hn).2; omega)⟩
theorem Cs.ok (h : Cs c css) : clsOk c (csT css) = true := by
  simp only [clsOk]
  rw [List.all_eq_true]
  intro x hx
  obtain ⟨ns, hn, rfl⟩ := List.mem_map.mp hx
  rw [clD_ints]
  exact decide_eq_true (h.cl ns hn).1
theorem Cs.check (h : Cs c css) (S : Store) : m_check_clauses [.int c, csT css] S = .ok .non S := by
  rw [check_clauses_ok (by have := h.c0; omega) h.cw, if_pos h.ok]
theorem Cs.nd (h : Cs c css) : ∀ d ∈ css, d.Nodup := fun d hd => nodup_of_lt (h.cl d hd).1.2.1
theorem Cs.U (h : Cs c css) {ns : List Int} (hn : ns.length ≤ 50) : (ns ++ css.flatten).length ≤ 900 := by
  have := flat_len fun ns hn => (h.cl ns hn).2
  have := h.few
  rw [List.length_append]
  omega
noncomputable def setB (css : List (List Int)) (ns : List Int) : Bool := decide (¬ Bad css ns ∧ ∀ d ∈ css, ∃ k ∈ d, Fc css ns k)
theorem Cl.nd {ns : List Int} (h : Cl c ns) : ns.Nodup := nodup_of_lt h.2.1
/-- forced, is_settled: of the program -/
theorem forced_ok (h : Cs c css) {ns : List Int} (hn : Cl c ns) (hl : ns.length ≤ 50) : ∃ X S', m_forced [.int c, csT css, clT ns] S = .ok X S' ∧ Fd css ns X ∧ ∀ i, i < S.length → S'[i]? = S[i]? := by
  have e1 := h.check S
  have e2 := check_literals_ok (c := c) (pt_cl hl) S
  rw [clD_ints, if_pos (decide_eq_true hn)] at e2
  rcases closed_ok (S := S) (css := css) (ns := ns) (by have := h.few; omega) (h.U hl) h.nd hn.2.2 with ⟨b, S', e3, o⟩ | ⟨b, js, es, p, S', e3, e4, e5, e6, o⟩
  · refine ⟨.non, S', ?_, .inl ⟨b, rfl⟩, o⟩
    unfold m_forced
    simp only [e_fnRun, e_bnd, e_bndS, e_seq, e_if, e_ret, e_retN, e_set, e_expr, e_raise, e_nil, e_par, e_asg, e_sub, e_args0, e_args1, e_rt, e_some, e_var, e_k, e_call, e_un, e_op, e_test, e_boolD, e_bAnd, e_bOr, e_bNot, e_mAnd, e_mOr, e_mNot, e_mIf, e_chain, e_tup, e_lst, e_own, e_isN, e_notN, e_part, e_noPart, e_intD, e_sl, e_seqM, e_its, e_tupM, e_lstM, e_yes, e_el, e_gtN, e_gtNil, e_gtCons, e_gtTup, e_addI, e_subI, e_ltI, e_leI, e_gtI, e_geI, e_negI, e_lenT, e_lenL, e_tupT, e_tupL, e_lstT, e_slT, e_slL, e_ix0, e_ix1, e_ix2, e_il0, e_il1, e_il2, D.isNon, List.map_cons, List.map_nil, List.cons_append, List.nil_append, List.length_cons, List.length_nil, Nat.reduceAdd, Nat.reduceSub, List.replicate_succ, List.replicate_zero, List.set_cons_zero, List.set_cons_succ, List.getElem?_cons_zero, List.getElem?_cons_succ, Option.join_some, wipeE, if_true, if_false, reduceIte, Bool.false_eq_true, Bool.not_true, Bool.not_false, e1, e2, e3]
  · have so : sortedD [.ref p] S' = .ok (.lst ((sortI js).map .int)) S' := by simp only [sortedD, dictOf, e4, intKeys_map]
    refine ⟨clT (sortI js), S', ?_, .inr ⟨b, sortI js, sortI_lt e5, fun k => ?_, rfl⟩, o⟩
    · unfold m_forced
      simp only [e_fnRun, e_bnd, e_bndS, e_seq, e_if, e_ret, e_retN, e_set, e_expr, e_raise, e_nil, e_par, e_asg, e_sub, e_args0, e_args1, e_rt, e_some, e_var, e_k, e_call, e_un, e_op, e_test, e_boolD, e_bAnd, e_bOr, e_bNot, e_mAnd, e_mOr, e_mNot, e_mIf, e_chain, e_tup, e_lst, e_own, e_isN, e_notN, e_part, e_noPart, e_intD, e_sl, e_seqM, e_its, e_tupM, e_lstM, e_yes, e_el, e_gtN, e_gtNil, e_gtCons, e_gtTup, e_addI, e_subI, e_ltI, e_leI, e_gtI, e_geI, e_negI, e_lenT, e_lenL, e_tupT, e_tupL, e_lstT, e_slT, e_slL, e_ix0, e_ix1, e_ix2, e_il0, e_il1, e_il2, D.isNon, List.map_cons, List.map_nil, List.cons_append, List.nil_append, List.length_cons, List.length_nil, Nat.reduceAdd, Nat.reduceSub, List.replicate_succ, List.replicate_zero, List.set_cons_zero, List.set_cons_succ, List.getElem?_cons_zero, List.getElem?_cons_succ, Option.join_some, wipeE, if_true, if_false, reduceIte, Bool.false_eq_true, Bool.not_true, Bool.not_false, e1, e2, e3, so]
    · rw [(sortI_perm js).mem_iff]
      exact e6 k
theorem all_any {js : List Int} {f : Int → Prop} (hj : ∀ k, k ∈ js ↔ f k) : (css.all fun d => d.any fun k => decide (k ∈ js)) = decide (∀ d ∈ css, ∃ k ∈ d, f k) := by
  rw [Bool.eq_iff_iff, List.all_eq_true, decide_eq_true_eq]
  constructor
  · intro z d hd
    obtain ⟨k, hk, hk2⟩ := List.any_eq_true.mp (z d hd)
    exact ⟨k, hk, (hj k).mp (of_decide_eq_true hk2)⟩
  · intro z d hd
    obtain ⟨k, hk, hk2⟩ := z d hd
    exact List.any_eq_true.mpr ⟨k, hk, decide_eq_true ((hj k).mpr hk2)⟩
theorem settled_ok (h : Cs c css) {ns : List Int} (hn : Cl c ns) (hl : ns.length ≤ 50) : ∃ S', m_is_settled [.int c, csT css, clT ns] S = .ok (.bl (setB css ns)) S' ∧ ∀ i, i < S.length → S'[i]? = S[i]? := by
  have e1 := h.check S
  have e2 := check_literals_ok (c := c) (pt_cl hl) S
  rw [clD_ints, if_pos (decide_eq_true hn)] at e2
  rcases closed_ok (S := S) (css := css) (ns := ns) (by have := h.few; omega) (h.U hl) h.nd hn.2.2 with ⟨b, S', e3, o⟩ | ⟨b, js, es, p, S', e3, e4, e5, e6, o⟩
  · refine ⟨S', ?_, o⟩
    unfold m_is_settled
    simp only [e_fnRun, e_bnd, e_bndS, e_seq, e_if, e_ret, e_retN, e_set, e_expr, e_raise, e_nil, e_par, e_asg, e_sub, e_args0, e_args1, e_rt, e_some, e_var, e_k, e_call, e_un, e_op, e_test, e_boolD, e_bAnd, e_bOr, e_bNot, e_mAnd, e_mOr, e_mNot, e_mIf, e_chain, e_tup, e_lst, e_own, e_isN, e_notN, e_part, e_noPart, e_intD, e_sl, e_seqM, e_its, e_tupM, e_lstM, e_yes, e_el, e_gtN, e_gtNil, e_gtCons, e_gtTup, e_addI, e_subI, e_ltI, e_leI, e_gtI, e_geI, e_negI, e_lenT, e_lenL, e_tupT, e_tupL, e_lstT, e_slT, e_slL, e_ix0, e_ix1, e_ix2, e_il0, e_il1, e_il2, D.isNon, List.map_cons, List.map_nil, List.cons_append, List.nil_append, List.length_cons, List.length_nil, Nat.reduceAdd, Nat.reduceSub, List.replicate_succ, List.replicate_zero, List.set_cons_zero, List.set_cons_succ, List.getElem?_cons_zero, List.getElem?_cons_succ, Option.join_some, wipeE, if_true, if_false, reduceIte, Bool.false_eq_true, Bool.not_true, Bool.not_false, e1, e2, e3]
    unfold setB
    rw [decide_eq_false (fun z => z.1 b)]
  · refine ⟨S', ?_, o⟩
    have h1 : mLc [4] (mSeq (mVar 1)) (gtN 4) bYes (mCall anyD [(mLc [5] (mSeq (mVar 4)) (gtN 5) bYes (mOp inDict (mVar 5) (mVar 3)) resF)]) resF [some (.int c), some (csT css), some (clT ns), some (.ref p), none, none] S' = .ok (.lst (css.map fun d => .bl (d.any fun k => decide (k ∈ js)))) S' := by
      rw [mLcT_map (ds := css.map clT) (by simp only [e_fnRun, e_bnd, e_bndS, e_seq, e_if, e_ret, e_retN, e_set, e_expr, e_raise, e_nil, e_par, e_asg, e_sub, e_args0, e_args1, e_rt, e_some, e_var, e_k, e_call, e_un, e_op, e_test, e_boolD, e_bAnd, e_bOr, e_bNot, e_mAnd, e_mOr, e_mNot, e_mIf, e_chain, e_tup, e_lst, e_own, e_isN, e_notN, e_part, e_noPart, e_intD, e_sl, e_seqM, e_its, e_tupM, e_lstM, e_yes, e_el, e_gtN, e_gtNil, e_gtCons, e_gtTup, e_addI, e_subI, e_ltI, e_leI, e_gtI, e_geI, e_negI, e_lenT, e_lenL, e_tupT, e_tupL, e_lstT, e_slT, e_slL, e_ix0, e_ix1, e_ix2, e_il0, e_il1, e_il2, D.isNon, List.map_cons, List.map_nil, List.cons_append, List.nil_append, List.length_cons, List.length_nil, Nat.reduceAdd, Nat.reduceSub, List.replicate_succ, List.replicate_zero, List.set_cons_zero, List.set_cons_succ, List.getElem?_cons_zero, List.getElem?_cons_succ, Option.join_some, wipeE, if_true, if_false, reduceIte, Bool.false_eq_true, Bool.not_true, Bool.not_false]) (fun x => match x with | .tup xs => (match intsOf xs with | some d => .bl (d.any fun k => decide (k ∈ js)) | none => .non) | _ => .non) fun x hx => by
        obtain ⟨d, hd, rfl⟩ := List.mem_map.mp hx
        have h2 : mLc [5] (mSeq (mVar 4)) (gtN 5) bYes (mOp inDict (mVar 5) (mVar 3)) resF [some (.int c), some (csT css), some (clT ns), some (.ref p), some (clT d), none] S' = .ok (.lst (d.map fun k => .bl (decide (k ∈ js)))) S' :=
          mLcT_ints (by simp only [e_fnRun, e_bnd, e_bndS, e_seq, e_if, e_ret, e_retN, e_set, e_expr, e_raise, e_nil, e_par, e_asg, e_sub, e_args0, e_args1, e_rt, e_some, e_var, e_k, e_call, e_un, e_op, e_test, e_boolD, e_bAnd, e_bOr, e_bNot, e_mAnd, e_mOr, e_mNot, e_mIf, e_chain, e_tup, e_lst, e_own, e_isN, e_notN, e_part, e_noPart, e_intD, e_sl, e_seqM, e_its, e_tupM, e_lstM, e_yes, e_el, e_gtN, e_gtNil, e_gtCons, e_gtTup, e_addI, e_subI, e_ltI, e_leI, e_gtI, e_geI, e_negI, e_lenT, e_lenL, e_tupT, e_tupL, e_lstT, e_slT, e_slL, e_ix0, e_ix1, e_ix2, e_il0, e_il1, e_il2, D.isNon, List.map_cons, List.map_nil, List.cons_append, List.nil_append, List.length_cons, List.length_nil, Nat.reduceAdd, Nat.reduceSub, List.replicate_succ, List.replicate_zero, List.set_cons_zero, List.set_cons_succ, List.getElem?_cons_zero, List.getElem?_cons_succ, Option.join_some, wipeE, if_true, if_false, reduceIte, Bool.false_eq_true, Bool.not_true, Bool.not_false]) _ fun k hk => by simp only [e_fnRun, e_bnd, e_bndS, e_seq, e_if, e_ret, e_retN, e_set, e_expr, e_raise, e_nil, e_par, e_asg, e_sub, e_args0, e_args1, e_rt, e_some, e_var, e_k, e_call, e_un, e_op, e_test, e_boolD, e_bAnd, e_bOr, e_bNot, e_mAnd, e_mOr, e_mNot, e_mIf, e_chain, e_tup, e_lst, e_own, e_isN, e_notN, e_part, e_noPart, e_intD, e_sl, e_seqM, e_its, e_tupM, e_lstM, e_yes, e_el, e_gtN, e_gtNil, e_gtCons, e_gtTup, e_addI, e_subI, e_ltI, e_leI, e_gtI, e_geI, e_negI, e_lenT, e_lenL, e_tupT, e_tupL, e_lstT, e_slT, e_slL, e_ix0, e_ix1, e_ix2, e_il0, e_il1, e_il2, D.isNon, List.map_cons, List.map_nil, List.cons_append, List.nil_append, List.length_cons, List.length_nil, Nat.reduceAdd, Nat.reduceSub, List.replicate_succ, List.replicate_zero, List.set_cons_zero, List.set_cons_succ, List.getElem?_cons_zero, List.getElem?_cons_succ, Option.join_some, wipeE, if_true, if_false, reduceIte, Bool.false_eq_true, Bool.not_true, Bool.not_false, in_dict e4]
        simp only [e_fnRun, e_bnd, e_bndS, e_seq, e_if, e_ret, e_retN, e_set, e_expr, e_raise, e_nil, e_par, e_asg, e_sub, e_args0, e_args1, e_rt, e_some, e_var, e_k, e_call, e_un, e_op, e_test, e_boolD, e_bAnd, e_bOr, e_bNot, e_mAnd, e_mOr, e_mNot, e_mIf, e_chain, e_tup, e_lst, e_own, e_isN, e_notN, e_part, e_noPart, e_intD, e_sl, e_seqM, e_its, e_tupM, e_lstM, e_yes, e_el, e_gtN, e_gtNil, e_gtCons, e_gtTup, e_addI, e_subI, e_ltI, e_leI, e_gtI, e_geI, e_negI, e_lenT, e_lenL, e_tupT, e_tupL, e_lstT, e_slT, e_slL, e_ix0, e_ix1, e_ix2, e_il0, e_il1, e_il2, D.isNon, List.map_cons, List.map_nil, List.cons_append, List.nil_append, List.length_cons, List.length_nil, Nat.reduceAdd, Nat.reduceSub, List.replicate_succ, List.replicate_zero, List.set_cons_zero, List.set_cons_succ, List.getElem?_cons_zero, List.getElem?_cons_succ, Option.join_some, wipeE, if_true, if_false, reduceIte, Bool.false_eq_true, Bool.not_true, Bool.not_false, h2, any_map, intsOf_map]]
      rw [List.map_map]
      congr 2
      refine List.map_congr_left fun d _ => ?_
      simp only [Function.comp, intsOf_map]
    unfold m_is_settled
    simp only [e_fnRun, e_bnd, e_bndS, e_seq, e_if, e_ret, e_retN, e_set, e_expr, e_raise, e_nil, e_par, e_asg, e_sub, e_args0, e_args1, e_rt, e_some, e_var, e_k, e_call, e_un, e_op, e_test, e_boolD, e_bAnd, e_bOr, e_bNot, e_mAnd, e_mOr, e_mNot, e_mIf, e_chain, e_tup, e_lst, e_own, e_isN, e_notN, e_part, e_noPart, e_intD, e_sl, e_seqM, e_its, e_tupM, e_lstM, e_yes, e_el, e_gtN, e_gtNil, e_gtCons, e_gtTup, e_addI, e_subI, e_ltI, e_leI, e_gtI, e_geI, e_negI, e_lenT, e_lenL, e_tupT, e_tupL, e_lstT, e_slT, e_slL, e_ix0, e_ix1, e_ix2, e_il0, e_il1, e_il2, D.isNon, List.map_cons, List.map_nil, List.cons_append, List.nil_append, List.length_cons, List.length_nil, Nat.reduceAdd, Nat.reduceSub, List.replicate_succ, List.replicate_zero, List.set_cons_zero, List.set_cons_succ, List.getElem?_cons_zero, List.getElem?_cons_succ, Option.join_some, wipeE, if_true, if_false, reduceIte, Bool.false_eq_true, Bool.not_true, Bool.not_false, e1, e2, e3, h1, all_map]
    rw [all_any e6]
    unfold setB
    congr 2
    exact decide_eq_decide.mpr ⟨fun z => ⟨b, z⟩, fun z => z.2⟩
theorem due_ok (h : Cs c css) {ns : List Int} (hn : Cl c ns) (hl : ns.length ≤ 50) : (∃ X S', m__law_due [.int 0, .int c, csT css, clT ns] S = .ok (.lst [X]) S' ∧ Fd css ns X ∧ ∀ i, i < S.length → S'[i]? = S[i]?) ∧
    ∃ S', m__law_due [.int 1, .int c, csT css, clT ns] S = .ok (.lst [.bl (setB css ns)]) S' ∧ ∀ i, i < S.length → S'[i]? = S[i]? := by
  obtain ⟨X, S', e, f, o⟩ := law_forced_ok (S := S) (css := css) (ns := ns) (h.U hl) h.nd hn.nd
  refine ⟨⟨X, S', ?_, f, o⟩, S', ?_, o⟩
  · unfold m__law_due
    simp only [e_fnRun, e_bnd, e_bndS, e_seq, e_if, e_ret, e_retN, e_set, e_expr, e_raise, e_nil, e_par, e_asg, e_sub, e_args0, e_args1, e_rt, e_some, e_var, e_k, e_call, e_un, e_op, e_test, e_boolD, e_bAnd, e_bOr, e_bNot, e_mAnd, e_mOr, e_mNot, e_mIf, e_chain, e_tup, e_lst, e_own, e_isN, e_notN, e_part, e_noPart, e_intD, e_sl, e_seqM, e_its, e_tupM, e_lstM, e_yes, e_el, e_gtN, e_gtNil, e_gtCons, e_gtTup, e_addI, e_subI, e_ltI, e_leI, e_gtI, e_geI, e_negI, e_lenT, e_lenL, e_tupT, e_tupL, e_lstT, e_slT, e_slL, e_ix0, e_ix1, e_ix2, e_il0, e_il1, e_il2, D.isNon, List.map_cons, List.map_nil, List.cons_append, List.nil_append, List.length_cons, List.length_nil, Nat.reduceAdd, Nat.reduceSub, List.replicate_succ, List.replicate_zero, List.set_cons_zero, List.set_cons_succ, List.getElem?_cons_zero, List.getElem?_cons_succ, Option.join_some, wipeE, if_true, if_false, reduceIte, Bool.false_eq_true, Bool.not_true, Bool.not_false, e, i00]
  · rcases f with ⟨b, rfl⟩ | ⟨b, L, p, m, rfl⟩
    · unfold m__law_due
      simp only [e_fnRun, e_bnd, e_bndS, e_seq, e_if, e_ret, e_retN, e_set, e_expr, e_raise, e_nil, e_par, e_asg, e_sub, e_args0, e_args1, e_rt, e_some, e_var, e_k, e_call, e_un, e_op, e_test, e_boolD, e_bAnd, e_bOr, e_bNot, e_mAnd, e_mOr, e_mNot, e_mIf, e_chain, e_tup, e_lst, e_own, e_isN, e_notN, e_part, e_noPart, e_intD, e_sl, e_seqM, e_its, e_tupM, e_lstM, e_yes, e_el, e_gtN, e_gtNil, e_gtCons, e_gtTup, e_addI, e_subI, e_ltI, e_leI, e_gtI, e_geI, e_negI, e_lenT, e_lenL, e_tupT, e_tupL, e_lstT, e_slT, e_slL, e_ix0, e_ix1, e_ix2, e_il0, e_il1, e_il2, D.isNon, List.map_cons, List.map_nil, List.cons_append, List.nil_append, List.length_cons, List.length_nil, Nat.reduceAdd, Nat.reduceSub, List.replicate_succ, List.replicate_zero, List.set_cons_zero, List.set_cons_succ, List.getElem?_cons_zero, List.getElem?_cons_succ, Option.join_some, wipeE, if_true, if_false, reduceIte, Bool.false_eq_true, Bool.not_true, Bool.not_false, e, i10]
      unfold setB
      rw [decide_eq_false (fun z => z.1 b)]
    · have h1 : mLc [5] (mSeq (mVar 2)) (gtN 5) bYes (mCall anyD [(mLc [6] (mSeq (mVar 5)) (gtN 6) bYes (mOp inD (mVar 6) (mVar 4)) resF)]) resF [some (.int 1), some (.int c), some (csT css), some (clT ns), some (clT L), none, none] S' = .ok (.lst (css.map fun d => .bl (d.any fun k => decide (k ∈ L)))) S' := by
        rw [mLcT_map (ds := css.map clT) (by simp only [e_fnRun, e_bnd, e_bndS, e_seq, e_if, e_ret, e_retN, e_set, e_expr, e_raise, e_nil, e_par, e_asg, e_sub, e_args0, e_args1, e_rt, e_some, e_var, e_k, e_call, e_un, e_op, e_test, e_boolD, e_bAnd, e_bOr, e_bNot, e_mAnd, e_mOr, e_mNot, e_mIf, e_chain, e_tup, e_lst, e_own, e_isN, e_notN, e_part, e_noPart, e_intD, e_sl, e_seqM, e_its, e_tupM, e_lstM, e_yes, e_el, e_gtN, e_gtNil, e_gtCons, e_gtTup, e_addI, e_subI, e_ltI, e_leI, e_gtI, e_geI, e_negI, e_lenT, e_lenL, e_tupT, e_tupL, e_lstT, e_slT, e_slL, e_ix0, e_ix1, e_ix2, e_il0, e_il1, e_il2, D.isNon, List.map_cons, List.map_nil, List.cons_append, List.nil_append, List.length_cons, List.length_nil, Nat.reduceAdd, Nat.reduceSub, List.replicate_succ, List.replicate_zero, List.set_cons_zero, List.set_cons_succ, List.getElem?_cons_zero, List.getElem?_cons_succ, Option.join_some, wipeE, if_true, if_false, reduceIte, Bool.false_eq_true, Bool.not_true, Bool.not_false]) (fun x => match x with | .tup xs => (match intsOf xs with | some d => .bl (d.any fun k => decide (k ∈ L)) | none => .non) | _ => .non) fun x hx => by
          obtain ⟨d, hd, rfl⟩ := List.mem_map.mp hx
          have h2 : mLc [6] (mSeq (mVar 5)) (gtN 6) bYes (mOp inD (mVar 6) (mVar 4)) resF [some (.int 1), some (.int c), some (csT css), some (clT ns), some (clT L), some (clT d), none] S' = .ok (.lst (d.map fun k => .bl (decide (k ∈ L)))) S' :=
            mLcT_ints (by simp only [e_fnRun, e_bnd, e_bndS, e_seq, e_if, e_ret, e_retN, e_set, e_expr, e_raise, e_nil, e_par, e_asg, e_sub, e_args0, e_args1, e_rt, e_some, e_var, e_k, e_call, e_un, e_op, e_test, e_boolD, e_bAnd, e_bOr, e_bNot, e_mAnd, e_mOr, e_mNot, e_mIf, e_chain, e_tup, e_lst, e_own, e_isN, e_notN, e_part, e_noPart, e_intD, e_sl, e_seqM, e_its, e_tupM, e_lstM, e_yes, e_el, e_gtN, e_gtNil, e_gtCons, e_gtTup, e_addI, e_subI, e_ltI, e_leI, e_gtI, e_geI, e_negI, e_lenT, e_lenL, e_tupT, e_tupL, e_lstT, e_slT, e_slL, e_ix0, e_ix1, e_ix2, e_il0, e_il1, e_il2, D.isNon, List.map_cons, List.map_nil, List.cons_append, List.nil_append, List.length_cons, List.length_nil, Nat.reduceAdd, Nat.reduceSub, List.replicate_succ, List.replicate_zero, List.set_cons_zero, List.set_cons_succ, List.getElem?_cons_zero, List.getElem?_cons_succ, Option.join_some, wipeE, if_true, if_false, reduceIte, Bool.false_eq_true, Bool.not_true, Bool.not_false]) _ fun k hk => by simp only [e_fnRun, e_bnd, e_bndS, e_seq, e_if, e_ret, e_retN, e_set, e_expr, e_raise, e_nil, e_par, e_asg, e_sub, e_args0, e_args1, e_rt, e_some, e_var, e_k, e_call, e_un, e_op, e_test, e_boolD, e_bAnd, e_bOr, e_bNot, e_mAnd, e_mOr, e_mNot, e_mIf, e_chain, e_tup, e_lst, e_own, e_isN, e_notN, e_part, e_noPart, e_intD, e_sl, e_seqM, e_its, e_tupM, e_lstM, e_yes, e_el, e_gtN, e_gtNil, e_gtCons, e_gtTup, e_addI, e_subI, e_ltI, e_leI, e_gtI, e_geI, e_negI, e_lenT, e_lenL, e_tupT, e_tupL, e_lstT, e_slT, e_slL, e_ix0, e_ix1, e_ix2, e_il0, e_il1, e_il2, D.isNon, List.map_cons, List.map_nil, List.cons_append, List.nil_append, List.length_cons, List.length_nil, Nat.reduceAdd, Nat.reduceSub, List.replicate_succ, List.replicate_zero, List.set_cons_zero, List.set_cons_succ, List.getElem?_cons_zero, List.getElem?_cons_succ, Option.join_some, wipeE, if_true, if_false, reduceIte, Bool.false_eq_true, Bool.not_true, Bool.not_false, in_tup]
          simp only [e_fnRun, e_bnd, e_bndS, e_seq, e_if, e_ret, e_retN, e_set, e_expr, e_raise, e_nil, e_par, e_asg, e_sub, e_args0, e_args1, e_rt, e_some, e_var, e_k, e_call, e_un, e_op, e_test, e_boolD, e_bAnd, e_bOr, e_bNot, e_mAnd, e_mOr, e_mNot, e_mIf, e_chain, e_tup, e_lst, e_own, e_isN, e_notN, e_part, e_noPart, e_intD, e_sl, e_seqM, e_its, e_tupM, e_lstM, e_yes, e_el, e_gtN, e_gtNil, e_gtCons, e_gtTup, e_addI, e_subI, e_ltI, e_leI, e_gtI, e_geI, e_negI, e_lenT, e_lenL, e_tupT, e_tupL, e_lstT, e_slT, e_slL, e_ix0, e_ix1, e_ix2, e_il0, e_il1, e_il2, D.isNon, List.map_cons, List.map_nil, List.cons_append, List.nil_append, List.length_cons, List.length_nil, Nat.reduceAdd, Nat.reduceSub, List.replicate_succ, List.replicate_zero, List.set_cons_zero, List.set_cons_succ, List.getElem?_cons_zero, List.getElem?_cons_succ, Option.join_some, wipeE, if_true, if_false, reduceIte, Bool.false_eq_true, Bool.not_true, Bool.not_false, h2, any_map, intsOf_map]]
        rw [List.map_map]
        congr 2
        refine List.map_congr_left fun d _ => ?_
        simp only [Function.comp, intsOf_map]
      unfold m__law_due
      simp only [e_fnRun, e_bnd, e_bndS, e_seq, e_if, e_ret, e_retN, e_set, e_expr, e_raise, e_nil, e_par, e_asg, e_sub, e_args0, e_args1, e_rt, e_some, e_var, e_k, e_call, e_un, e_op, e_test, e_boolD, e_bAnd, e_bOr, e_bNot, e_mAnd, e_mOr, e_mNot, e_mIf, e_chain, e_tup, e_lst, e_own, e_isN, e_notN, e_part, e_noPart, e_intD, e_sl, e_seqM, e_its, e_tupM, e_lstM, e_yes, e_el, e_gtN, e_gtNil, e_gtCons, e_gtTup, e_addI, e_subI, e_ltI, e_leI, e_gtI, e_geI, e_negI, e_lenT, e_lenL, e_tupT, e_tupL, e_lstT, e_slT, e_slL, e_ix0, e_ix1, e_ix2, e_il0, e_il1, e_il2, D.isNon, List.map_cons, List.map_nil, List.cons_append, List.nil_append, List.length_cons, List.length_nil, Nat.reduceAdd, Nat.reduceSub, List.replicate_succ, List.replicate_zero, List.set_cons_zero, List.set_cons_succ, List.getElem?_cons_zero, List.getElem?_cons_succ, Option.join_some, wipeE, if_true, if_false, reduceIte, Bool.false_eq_true, Bool.not_true, Bool.not_false, e, i10, h1, all_map]
      rw [all_any m]
      unfold setB
      congr 4
      exact decide_eq_decide.mpr ⟨fun z => ⟨b, z⟩, fun z => z.2⟩
end
end K14

set_option Elab.async false
set_option maxRecDepth 100000
set_option linter.all false
set_option maxHeartbeats 4000000
namespace K14
open PySem hiding ret
open Mir
open Classical
theorem forT_nil {f : D → Mir.Env → Store → Option Mir.Env} {m : MS} {env : Mir.Env} {S : Store} : forD (fun _ => True) f m [] env S = .nx env S := by simp only [forD, if_true]
theorem forT_cons {f : D → Mir.Env → Store → Option Mir.Env} {m : MS} {env e1 e2 : Mir.Env} {S S' : Store} {d : D} {ds : List D} (h1 : f d env S = some e1) (h2 : m e1 S = .nx e2 S') : forD (fun _ => True) f m (d :: ds) env S = forD (fun _ => True) f m ds e2 S' := by
  simp only [forD, if_true, h1, h2]
theorem e_forL {me : Mir.Env → M D} {f : D → Mir.Env → Store → Option Mir.Env} {m : MS} {env : Mir.Env} {S S' : Store} {ds : List D} (h : me env S = .ok (.lst ds) S') : sFor (mSeq me) f m env S = forD (fun _ => True) f m ds env S' := by
  have e : mSeq me env S = .ok (ds, fun S2 => seqOf S2 (.lst ds) = some (false, ds)) S' := by rw [e_seqM, e_bnd, h]; rfl
  rw [e_for, e_bndS, e]
  show forD (fun S2 => seqOf S2 (.lst ds) = some (false, ds)) f m ds env S' = _
  rw [forD_true (g := fun S2 => seqOf S2 (.lst ds) = some (false, ds)) (fun _ => rfl)]
theorem forD_inv {f : D → Mir.Env → Store → Option Mir.Env} {m : MS} {P : Mir.Env → Store → Prop} : ∀ {ds : List D}, (∀ d ∈ ds, ∀ env S, P env S → ∃ e1 e2 S', f d env S = some e1 ∧ m e1 S = .nx e2 S' ∧ P e2 S') → ∀ {env : Mir.Env} {S : Store}, P env S → ∃ e2 S', forD (fun _ => True) f m ds env S = .nx e2 S' ∧ P e2 S'
  | [], _, env, S, p => ⟨env, S, forT_nil, p⟩
  | d :: ds, h, env, S, p => by
    obtain ⟨e1, e2, S', h1, h2, p2⟩ := h d List.mem_cons_self env S p
    obtain ⟨e3, S3, h3, p3⟩ := forD_inv (fun d' hd' => h d' (List.mem_cons_of_mem _ hd')) p2
    exact ⟨e3, S3, by rw [forT_cons h1 h2]; exact h3, p3⟩
theorem lcD_inv {f : D → M (Option D)} {I : Store → Prop} {Q : D → Prop} : ∀ {ds : List D}, (∀ d ∈ ds, ∀ S, I S → ∃ x S', f d S = .ok (some x) S' ∧ I S' ∧ Q x) → ∀ {S : Store}, I S → ∃ xs S', lcD (fun _ => True) f ds S = .ok xs S' ∧ I S' ∧ xs.length = ds.length ∧ ∀ x ∈ xs, Q x
  | [], _, S, p => ⟨[], S, by simp only [lcD, if_true], p, rfl, fun _ h => by cases h⟩
  | d :: ds, h, S, p => by
    obtain ⟨x, S', h1, p1, q1⟩ := h d List.mem_cons_self S p
    obtain ⟨xs, S2, h2, p2, l2, q2⟩ := lcD_inv (fun d' hd' => h d' (List.mem_cons_of_mem _ hd')) p1
    refine ⟨x :: xs, S2, ?_, p2, by simp [l2], fun y hy => ?_⟩
    · simp only [lcD, if_true, h1, h2, Option.toList_some, List.singleton_append]
    · rcases List.mem_cons.mp hy with e | hy
      · subst e; exact q1
      · exact q2 y hy

theorem ty_ints (ns : List Int) : ∀ x ∈ ns.map D.int, Ty x = true := fun x hx => by
  obtain ⟨k, _, rfl⟩ := List.mem_map.mp hx
  rfl
theorem lcD_true {g : Store → Prop} {f : D → M (Option D)} (hg : ∀ S, g S) : lcD g f = lcD (fun _ => True) f := by
  have : g = fun _ => True := by funext S; exact propext ⟨fun _ => trivial, fun _ => hg S⟩
  rw [this]
theorem lcD_run {f : D → M (Option D)} {I : Store → Prop} {p : D → Option D} : ∀ {ds : List D}, (∀ d ∈ ds, ∀ S, I S → ∃ S', f d S = .ok (p d) S' ∧ I S') → ∀ {S : Store}, I S → ∃ S', lcD (fun _ => True) f ds S = .ok (ds.filterMap p) S' ∧ I S'
  | [], _, S, h => ⟨S, by simp only [lcD, if_true, List.filterMap_nil], h⟩
  | d :: ds, h, S, hS => by
    obtain ⟨S1, e1, h1⟩ := h d List.mem_cons_self S hS
    obtain ⟨S2, e2, h2⟩ := lcD_run (fun d' hd' => h d' (List.mem_cons_of_mem _ hd')) h1
    refine ⟨S2, ?_, h2⟩
    simp only [lcD, if_true, e1, e2]
    cases q : p d <;> simp [List.filterMap_cons, q]
/-! ### what is sure -/
noncomputable def lits (c : Nat) : List Int := (((List.range (2 * c + 1)).map fun i : Nat => -(c : Int) + (i : Int)).filter fun k => !decide (k = 0))
theorem mem_lits {c : Nat} {k : Int} : k ∈ lits c ↔ k ≠ 0 ∧ -(c : Int) ≤ k ∧ k ≤ c := by
  unfold lits
  rw [List.mem_filter]
  simp only [List.mem_map, List.mem_range, Bool.not_eq_true', decide_eq_false_iff_not]
  constructor
  · rintro ⟨⟨i, hi, rfl⟩, h⟩
    omega
  · rintro ⟨h0, h1, h2⟩
    exact ⟨⟨(k + c).toNat, by omega, by omega⟩, h0⟩
theorem range_lt (n : Nat) (f : Nat → Int) (hf : ∀ i j, i < j → f i < f j) : ((List.range n).map f).Pairwise (· < ·) := by
  refine List.Pairwise.map f (fun a b h => hf a b h) ?_
  exact List.pairwise_lt_range
theorem lits_lt (c : Nat) : (lits c).Pairwise (· < ·) := (range_lt _ (fun i : Nat => -(c : Int) + (i : Int)) fun i j h => by omega).sublist List.filter_sublist
noncomputable def sureL (css : List (List Int)) (c : Nat) : List Int := (lits c).filter fun k => decide (Bad css [-k])
section
variable {c : Int} {css : List (List Int)} {S : Store}
theorem probes_ok (h : Cs c css) : ∃ S', m_probes [.int c, csT css] S = .ok (clT (sureL css c.toNat)) S' ∧ ∀ i, i < S.length → S'[i]? = S[i]? := by
  obtain ⟨n, rfl⟩ : ∃ n : Nat, c = n := ⟨c.toNat, by have := h.c0; omega⟩
  have c8 := h.c1
  have e1 := h.check S
  have rg : range2M [.int (-(n : Int)), .int ((n : Int) + 1)] S = .ok (rangeD (-(n : Int)) (2 * n + 1), fun _ => True) S := by
    simp only [range2M]
    rw [if_pos ⟨by omega, by omega, by omega, by omega, by omega⟩, show ((n : Int) + 1 - -(n : Int)).toNat = 2 * n + 1 by omega]
  have er : rangeD (-(n : Int)) (2 * n + 1) = ((List.range (2 * n + 1)).map fun i : Nat => -(n : Int) + (i : Int)).map D.int := by
    unfold rangeD
    rw [List.map_map]
    rfl
  have h1 : mLc [3] (mIts range2M [(mUn negD (mVar 0)), (mOp addD (mVar 0) (mK (.int 1)))]) (gtN 3) (mTest (mOp neD (mVar 3) (mK (.int 0)))) (mVar 3) resF [some (.int (n : Int)), some (csT css), none, none] S = .ok (.lst ((lits n).map .int)) S := by
    rw [mLc_intsF (g := fun _ => True) (ns := (List.range (2 * n + 1)).map fun i : Nat => -(n : Int) + (i : Int)) (q := fun k => if (!decide (k = 0)) = true then some (D.int k) else none) (by
      simp only [e_fnRun, e_bnd, e_bndS, e_seq, e_if, e_ret, e_retN, e_set, e_expr, e_raise, e_nil, e_par, e_asg, e_sub, e_args0, e_args1, e_rt, e_some, e_var, e_k, e_call, e_un, e_op, e_test, e_boolD, e_bAnd, e_bOr, e_bNot, e_mAnd, e_mOr, e_mNot, e_mIf, e_chain, e_tup, e_lst, e_own, e_isN, e_notN, e_part, e_noPart, e_intD, e_sl, e_seqM, e_its, e_tupM, e_lstM, e_yes, e_el, e_gtN, e_gtNil, e_gtCons, e_gtTup, e_addI, e_subI, e_ltI, e_leI, e_gtI, e_geI, e_negI, e_lenT, e_lenL, e_tupT, e_tupL, e_lstT, e_slT, e_slL, e_ix0, e_ix1, e_ix2, e_il0, e_il1, e_il2, D.isNon, List.map_cons, List.map_nil, List.cons_append, List.nil_append, List.length_cons, List.length_nil, Nat.reduceAdd, Nat.reduceSub, List.replicate_succ, List.replicate_zero, List.set_cons_zero, List.set_cons_succ, List.getElem?_cons_zero, List.getElem?_cons_succ, Option.join_some, wipeE, if_true, if_false, reduceIte, Bool.false_eq_true, Bool.not_true, Bool.not_false]
      rw [rg, er]) trivial fun k hk => by
        simp only [e_fnRun, e_bnd, e_bndS, e_seq, e_if, e_ret, e_retN, e_set, e_expr, e_raise, e_nil, e_par, e_asg, e_sub, e_args0, e_args1, e_rt, e_some, e_var, e_k, e_call, e_un, e_op, e_test, e_boolD, e_bAnd, e_bOr, e_bNot, e_mAnd, e_mOr, e_mNot, e_mIf, e_chain, e_tup, e_lst, e_own, e_isN, e_notN, e_part, e_noPart, e_intD, e_sl, e_seqM, e_its, e_tupM, e_lstM, e_yes, e_el, e_gtN, e_gtNil, e_gtCons, e_gtTup, e_addI, e_subI, e_ltI, e_leI, e_gtI, e_geI, e_negI, e_lenT, e_lenL, e_tupT, e_tupL, e_lstT, e_slT, e_slL, e_ix0, e_ix1, e_ix2, e_il0, e_il1, e_il2, D.isNon, List.map_cons, List.map_nil, List.cons_append, List.nil_append, List.length_cons, List.length_nil, Nat.reduceAdd, Nat.reduceSub, List.replicate_succ, List.replicate_zero, List.set_cons_zero, List.set_cons_succ, List.getElem?_cons_zero, List.getElem?_cons_succ, Option.join_some, wipeE, if_true, if_false, reduceIte, Bool.false_eq_true, Bool.not_true, Bool.not_false, ne_int]
        by_cases hh : k = 0 <;> simp only [e_fnRun, e_bnd, e_bndS, e_seq, e_if, e_ret, e_retN, e_set, e_expr, e_raise, e_nil, e_par, e_asg, e_sub, e_args0, e_args1, e_rt, e_some, e_var, e_k, e_call, e_un, e_op, e_test, e_boolD, e_bAnd, e_bOr, e_bNot, e_mAnd, e_mOr, e_mNot, e_mIf, e_chain, e_tup, e_lst, e_own, e_isN, e_notN, e_part, e_noPart, e_intD, e_sl, e_seqM, e_its, e_tupM, e_lstM, e_yes, e_el, e_gtN, e_gtNil, e_gtCons, e_gtTup, e_addI, e_subI, e_ltI, e_leI, e_gtI, e_geI, e_negI, e_lenT, e_lenL, e_tupT, e_tupL, e_lstT, e_slT, e_slL, e_ix0, e_ix1, e_ix2, e_il0, e_il1, e_il2, D.isNon, List.map_cons, List.map_nil, List.cons_append, List.nil_append, List.length_cons, List.length_nil, Nat.reduceAdd, Nat.reduceSub, List.replicate_succ, List.replicate_zero, List.set_cons_zero, List.set_cons_succ, List.getElem?_cons_zero, List.getElem?_cons_succ, Option.join_some, wipeE, if_true, if_false, reduceIte, Bool.false_eq_true, Bool.not_true, Bool.not_false, hh, decide_true, decide_false]]
    rw [filterMap_int]
    rfl
  obtain ⟨S', e2, o⟩ := lcD_run (f := elD (wipeE [some (.int (n : Int)), some (csT css), some (.lst ((lits n).map .int)), none] [3]) (gtN 3) (mTest (mIsN (mCall m_closed [(mVar 1), (mTup [(mUn negD (mVar 3))])]))) (mVar 3)) (I := fun S' => S.length ≤ S'.length ∧ ∀ i, i < S.length → S'[i]? = S[i]?) (p := fun d => match d with | .int k => if decide (Bad css [-k]) = true then some (.int k) else none | _ => none) (ds := (lits n).map .int)
    (fun d hd S1 ⟨l1, o1⟩ => by
      obtain ⟨k, hk, rfl⟩ := List.mem_map.mp hd
      have hk' := mem_lits.mp hk
      have lens : ∀ S2 : Store, (∀ i, i < S1.length → S2[i]? = S1[i]?) → S1.length ≤ S2.length := fun S2 h2 => by
        by_cases hz : S1.length ≤ S2.length
        · exact hz
        · exfalso
          have := h2 S2.length (by omega)
          rw [List.getElem?_eq_none (Nat.le_refl _), List.getElem?_eq_getElem (by omega)] at this
          cases this
      rcases closed_ok (S := S1) (css := css) (ns := [-k]) (by have := h.few; omega) (h.U (by simp)) h.nd (by intro j hj; simp at hj; subst hj; simp; omega) with ⟨b, S2, e3, o2⟩ | ⟨b, js, es, p, S2, e3, _, _, _, o2⟩
      · refine ⟨S2, ?_, by have := lens S2 o2; omega, fun i hi => by rw [o2 i (by omega)]; exact o1 i hi⟩
        simp only [clT, List.map_cons, List.map_nil] at e3
        simp only [e_fnRun, e_bnd, e_bndS, e_seq, e_if, e_ret, e_retN, e_set, e_expr, e_raise, e_nil, e_par, e_asg, e_sub, e_args0, e_args1, e_rt, e_some, e_var, e_k, e_call, e_un, e_op, e_test, e_boolD, e_bAnd, e_bOr, e_bNot, e_mAnd, e_mOr, e_mNot, e_mIf, e_chain, e_tup, e_lst, e_own, e_isN, e_notN, e_part, e_noPart, e_intD, e_sl, e_seqM, e_its, e_tupM, e_lstM, e_yes, e_el, e_gtN, e_gtNil, e_gtCons, e_gtTup, e_addI, e_subI, e_ltI, e_leI, e_gtI, e_geI, e_negI, e_lenT, e_lenL, e_tupT, e_tupL, e_lstT, e_slT, e_slL, e_ix0, e_ix1, e_ix2, e_il0, e_il1, e_il2, D.isNon, List.map_cons, List.map_nil, List.cons_append, List.nil_append, List.length_cons, List.length_nil, Nat.reduceAdd, Nat.reduceSub, List.replicate_succ, List.replicate_zero, List.set_cons_zero, List.set_cons_succ, List.getElem?_cons_zero, List.getElem?_cons_succ, Option.join_some, wipeE, if_true, if_false, reduceIte, Bool.false_eq_true, Bool.not_true, Bool.not_false, e3]
        rw [decide_eq_true b]
        rfl
      · refine ⟨S2, ?_, by have := lens S2 o2; omega, fun i hi => by rw [o2 i (by omega)]; exact o1 i hi⟩
        simp only [clT, List.map_cons, List.map_nil] at e3
        simp only [e_fnRun, e_bnd, e_bndS, e_seq, e_if, e_ret, e_retN, e_set, e_expr, e_raise, e_nil, e_par, e_asg, e_sub, e_args0, e_args1, e_rt, e_some, e_var, e_k, e_call, e_un, e_op, e_test, e_boolD, e_bAnd, e_bOr, e_bNot, e_mAnd, e_mOr, e_mNot, e_mIf, e_chain, e_tup, e_lst, e_own, e_isN, e_notN, e_part, e_noPart, e_intD, e_sl, e_seqM, e_its, e_tupM, e_lstM, e_yes, e_el, e_gtN, e_gtNil, e_gtCons, e_gtTup, e_addI, e_subI, e_ltI, e_leI, e_gtI, e_geI, e_negI, e_lenT, e_lenL, e_tupT, e_tupL, e_lstT, e_slT, e_slL, e_ix0, e_ix1, e_ix2, e_il0, e_il1, e_il2, D.isNon, List.map_cons, List.map_nil, List.cons_append, List.nil_append, List.length_cons, List.length_nil, Nat.reduceAdd, Nat.reduceSub, List.replicate_succ, List.replicate_zero, List.set_cons_zero, List.set_cons_succ, List.getElem?_cons_zero, List.getElem?_cons_succ, Option.join_some, wipeE, if_true, if_false, reduceIte, Bool.false_eq_true, Bool.not_true, Bool.not_false, e3]
        rw [decide_eq_false b]
        rfl) (S := S) ⟨Nat.le_refl _, fun _ _ => rfl⟩
  have e3 : ((lits n).map D.int).filterMap (fun d => match d with | .int k => if decide (Bad css [-k]) = true then some (.int k) else none | _ => none) = (sureL css n).map D.int := by
    rw [List.filterMap_map]
    exact filterMap_int (fun k => decide (Bad css [-k])) (lits n)
  have h2 : mLc [3] (mSeq (mVar 2)) (gtN 3) (mTest (mIsN (mCall m_closed [(mVar 1), (mTup [(mUn negD (mVar 3))])]))) (mVar 3) resF [some (.int (n : Int)), some (csT css), some (.lst ((lits n).map .int)), none] S = .ok (.lst ((sureL css n).map .int)) S' := by
    show bnd _ _ S = _
    simp only [e_fnRun, e_bnd, e_bndS, e_seq, e_if, e_ret, e_retN, e_set, e_expr, e_raise, e_nil, e_par, e_asg, e_sub, e_args0, e_args1, e_rt, e_some, e_var, e_k, e_call, e_un, e_op, e_test, e_boolD, e_bAnd, e_bOr, e_bNot, e_mAnd, e_mOr, e_mNot, e_mIf, e_chain, e_tup, e_lst, e_own, e_isN, e_notN, e_part, e_noPart, e_intD, e_sl, e_seqM, e_its, e_tupM, e_lstM, e_yes, e_el, e_gtN, e_gtNil, e_gtCons, e_gtTup, e_addI, e_subI, e_ltI, e_leI, e_gtI, e_geI, e_negI, e_lenT, e_lenL, e_tupT, e_tupL, e_lstT, e_slT, e_slL, e_ix0, e_ix1, e_ix2, e_il0, e_il1, e_il2, D.isNon, List.map_cons, List.map_nil, List.cons_append, List.nil_append, List.length_cons, List.length_nil, Nat.reduceAdd, Nat.reduceSub, List.replicate_succ, List.replicate_zero, List.set_cons_zero, List.set_cons_succ, List.getElem?_cons_zero, List.getElem?_cons_succ, Option.join_some, wipeE, if_true, if_false, reduceIte, Bool.false_eq_true, Bool.not_true, Bool.not_false]
    simp only [wipeE, List.set_cons_zero, List.set_cons_succ] at e2
    rw [lcD_true (g := fun S' => seqOf S' (D.lst ((lits n).map D.int)) = some (false, (lits n).map D.int)) (fun _ => rfl), e2, e3]
    rfl
  refine ⟨S', ?_, o.2⟩
  unfold m_probes
  simp only [e_fnRun, e_bnd, e_bndS, e_seq, e_if, e_ret, e_retN, e_set, e_expr, e_raise, e_nil, e_par, e_asg, e_sub, e_args0, e_args1, e_rt, e_some, e_var, e_k, e_call, e_un, e_op, e_test, e_boolD, e_bAnd, e_bOr, e_bNot, e_mAnd, e_mOr, e_mNot, e_mIf, e_chain, e_tup, e_lst, e_own, e_isN, e_notN, e_part, e_noPart, e_intD, e_sl, e_seqM, e_its, e_tupM, e_lstM, e_yes, e_el, e_gtN, e_gtNil, e_gtCons, e_gtTup, e_addI, e_subI, e_ltI, e_leI, e_gtI, e_geI, e_negI, e_lenT, e_lenL, e_tupT, e_tupL, e_lstT, e_slT, e_slL, e_ix0, e_ix1, e_ix2, e_il0, e_il1, e_il2, D.isNon, List.map_cons, List.map_nil, List.cons_append, List.nil_append, List.length_cons, List.length_nil, Nat.reduceAdd, Nat.reduceSub, List.replicate_succ, List.replicate_zero, List.set_cons_zero, List.set_cons_succ, List.getElem?_cons_zero, List.getElem?_cons_succ, Option.join_some, wipeE, if_true, if_false, reduceIte, Bool.false_eq_true, Bool.not_true, Bool.not_false, e1, h1, h2]
  rfl
end
end K14

set_option Elab.async false
set_option maxRecDepth 100000
set_option linter.all false
set_option maxHeartbeats 4000000
namespace K14
open PySem hiding ret
open Mir
open Classical

/-! ### an order drawn -/
noncomputable def orB : MS := (sExpr (mMtL appD (mVar 3) [(mMtL popD (mVar 2) [(mCall m__law_draw [(mVar 0), (mCall lenD [(mVar 2)])])])]))
theorem or_loop {n p q : Nat} {a : Option D} {P : Int → Prop} (np : n ≠ p) (nq : n ≠ q) (pq : p ≠ q) : ∀ (ds : List D) (S : Store) (ws fs : List Int) (x4 : Option D), Dk S n → S[p]? = some (.lst (ws.map .int)) → S[q]? = some (.lst (fs.map .int)) → (∀ w ∈ ws, P w) → (∀ f ∈ fs, P f) → ds.length ≤ ws.length → ws.length ≤ 100 → fs.length + ds.length ≤ 100 →
    ∃ y4 S' fs', forD (fun _ => True) (gtN 4) orB ds [some (.ref n), a, some (.ref p), some (.ref q), x4] S = .nx [some (.ref n), a, some (.ref p), some (.ref q), y4] S' ∧ Dk S' n ∧ S'[q]? = some (.lst ((fs' : List Int).map .int)) ∧ (∀ f ∈ fs', P f) ∧ fs'.length = fs.length + ds.length
  | [], S, ws, fs, x4, h, hp, hq, _, pf, _, _, _ => ⟨x4, S, fs, by simp only [forD, if_true], h, hq, pf, by simp⟩
  | d :: ds, S, ws, fs, x4, h, hp, hq, pw, pf, hl, hz, hz2 => by
    simp only [List.length_cons] at hl hz2
    obtain ⟨rI, S1, e1, r0, r1, v1⟩ := draw_ok (m := ws.length) h (by omega) (by omega)
    obtain ⟨r, rfl⟩ : ∃ r : Nat, rI = r := ⟨rI.toNat, by omega⟩
    have hr : r < ws.length := by omega
    have hp1 : S1[p]? = some (.lst (ws.map .int)) := by rw [v1.2.1 p (Ne.symm np)]; exact hp
    have hq0 : S1[q]? = some (.lst (fs.map .int)) := by rw [v1.2.1 q (Ne.symm nq)]; exact hq
    have e2 := pop_ok (k := r) (d := .int ws[r]) hp1 (by simp [hr]) (by rw [List.length_map]; omega)
    let S2 := S1.set p (.lst ((ws.map D.int).eraseIdx r))
    have h2 : Dk S2 n := dk_set v1.2.2 np
    have hp2 : S2[p]? = some (.lst ((ws.eraseIdx r).map .int)) := by rw [← erase_map]; exact set_at hp1
    have hq2 : S2[q]? = some (.lst (fs.map .int)) := by
      show (S1.set p _)[q]? = _
      rw [set_off (Ne.symm pq)]; exact hq0
    have e4 := app_ok (d := .int ws[r]) hq2 (by rw [List.length_map]; omega)
    let S3 := S2.set q (.lst (fs.map D.int ++ [.int ws[r]]))
    have h3 : Dk S3 n := dk_set h2 nq
    have hp3 : S3[p]? = some (.lst ((ws.eraseIdx r).map .int)) := by
      show (S2.set q _)[p]? = _
      rw [set_off pq]; exact hp2
    have hq3 : S3[q]? = some (.lst ((fs ++ [ws[r]]).map .int)) := by
      show (S2.set q _)[q]? = _
      rw [set_at hq2]; simp
    have hle : (ws.eraseIdx r).length = ws.length - 1 := List.length_eraseIdx_of_lt hr
    obtain ⟨y4, S4, fs4, e5, h5, q5, p5, l5⟩ := or_loop (a := a) np nq pq ds S3 (ws.eraseIdx r) (fs ++ [ws[r]]) (some d) h3 hp3 hq3 (fun w hw => pw w (List.mem_of_mem_eraseIdx hw)) (fun f hf => by
      rcases List.mem_append.mp hf with z | z
      · exact pf f z
      · simp at z; subst z; exact pw _ (List.getElem_mem hr)) (by omega) (by omega) (by rw [List.length_append]; simp only [List.length_cons, List.length_nil]; omega)
    refine ⟨y4, S4, fs4, ?_, h5, q5, p5, by rw [l5, List.length_append]; simp only [List.length_cons, List.length_nil]; omega⟩
    simp only [forD, if_true]
    have st : orB [some (.ref n), a, some (.ref p), some (.ref q), some d] S = .nx [some (.ref n), a, some (.ref p), some (.ref q), some d] S3 := by
      unfold orB
      simp only [e_fnRun, e_bnd, e_bndS, e_seq, e_if, e_ret, e_retN, e_set, e_expr, e_raise, e_nil, e_par, e_asg, e_sub, e_args0, e_args1, e_rt, e_some, e_var, e_k, e_call, e_un, e_op, e_test, e_boolD, e_bAnd, e_bOr, e_bNot, e_mAnd, e_mOr, e_mNot, e_mIf, e_chain, e_tup, e_lst, e_own, e_isN, e_notN, e_part, e_noPart, e_intD, e_sl, e_seqM, e_its, e_tupM, e_lstM, e_yes, e_el, e_gtN, e_gtNil, e_gtCons, e_gtTup, e_addI, e_subI, e_ltI, e_leI, e_gtI, e_geI, e_negI, e_lenT, e_lenL, e_tupT, e_tupL, e_lstT, e_slT, e_slL, e_ix0, e_ix1, e_ix2, e_il0, e_il1, e_il2, D.isNon, List.map_cons, List.map_nil, List.cons_append, List.nil_append, List.length_cons, List.length_nil, Nat.reduceAdd, Nat.reduceSub, List.replicate_succ, List.replicate_zero, List.set_cons_zero, List.set_cons_succ, List.getElem?_cons_zero, List.getElem?_cons_succ, Option.join_some, wipeE, if_true, if_false, reduceIte, Bool.false_eq_true, Bool.not_true, Bool.not_false, e_mt, lst_ref hq, lst_ref hp, len_seq (seq_ref hp), List.length_map, e1, e2]
      rw [show S1.set p (.lst ((ws.map D.int).eraseIdx r)) = S2 from rfl]
      simp only [e_fnRun, e_bnd, e_bndS, e_seq, e_if, e_ret, e_retN, e_set, e_expr, e_raise, e_nil, e_par, e_asg, e_sub, e_args0, e_args1, e_rt, e_some, e_var, e_k, e_call, e_un, e_op, e_test, e_boolD, e_bAnd, e_bOr, e_bNot, e_mAnd, e_mOr, e_mNot, e_mIf, e_chain, e_tup, e_lst, e_own, e_isN, e_notN, e_part, e_noPart, e_intD, e_sl, e_seqM, e_its, e_tupM, e_lstM, e_yes, e_el, e_gtN, e_gtNil, e_gtCons, e_gtTup, e_addI, e_subI, e_ltI, e_leI, e_gtI, e_geI, e_negI, e_lenT, e_lenL, e_tupT, e_tupL, e_lstT, e_slT, e_slL, e_ix0, e_ix1, e_ix2, e_il0, e_il1, e_il2, D.isNon, List.map_cons, List.map_nil, List.cons_append, List.nil_append, List.length_cons, List.length_nil, Nat.reduceAdd, Nat.reduceSub, List.replicate_succ, List.replicate_zero, List.set_cons_zero, List.set_cons_succ, List.getElem?_cons_zero, List.getElem?_cons_succ, Option.join_some, wipeE, if_true, if_false, reduceIte, Bool.false_eq_true, Bool.not_true, Bool.not_false, e4]
      rfl
    simp only [e_fnRun, e_bnd, e_bndS, e_seq, e_if, e_ret, e_retN, e_set, e_expr, e_raise, e_nil, e_par, e_asg, e_sub, e_args0, e_args1, e_rt, e_some, e_var, e_k, e_call, e_un, e_op, e_test, e_boolD, e_bAnd, e_bOr, e_bNot, e_mAnd, e_mOr, e_mNot, e_mIf, e_chain, e_tup, e_lst, e_own, e_isN, e_notN, e_part, e_noPart, e_intD, e_sl, e_seqM, e_its, e_tupM, e_lstM, e_yes, e_el, e_gtN, e_gtNil, e_gtCons, e_gtTup, e_addI, e_subI, e_ltI, e_leI, e_gtI, e_geI, e_negI, e_lenT, e_lenL, e_tupT, e_tupL, e_lstT, e_slT, e_slL, e_ix0, e_ix1, e_ix2, e_il0, e_il1, e_il2, D.isNon, List.map_cons, List.map_nil, List.cons_append, List.nil_append, List.length_cons, List.length_nil, Nat.reduceAdd, Nat.reduceSub, List.replicate_succ, List.replicate_zero, List.set_cons_zero, List.set_cons_succ, List.getElem?_cons_zero, List.getElem?_cons_succ, Option.join_some, wipeE, if_true, if_false, reduceIte, Bool.false_eq_true, Bool.not_true, Bool.not_false]
    rw [st]
    exact e5
theorem order_ok {S : Store} {n : Nat} {k : Nat} (h : Dk S n) (hk : k ≤ 50) : ∃ ks S', m__law_order [.ref n, .int (k : Int)] S = .ok (clT ks) S' ∧ Dk S' n ∧ ks.length = k ∧ ∀ j ∈ ks, 0 ≤ j ∧ j < k := by
  obtain ⟨x, y, en⟩ := id h
  have hn : n < S.length := (List.getElem?_eq_some_iff.mp en).1
  let ws : List Int := (List.range k).map fun i : Nat => 0 + (i : Int)
  let S1 : Store := S ++ [.lst (ws.map .int)]
  let S2 : Store := S1 ++ [.lst ([] : List D)]
  have hS1 : S1.length = S.length + 1 := by simp [S1]
  have hd2 : Dk S2 n := ⟨x, y, by
    show (S ++ [_] ++ [_])[n]? = _
    rw [List.getElem?_append_left (by simp; omega), List.getElem?_append_left hn]; exact en⟩
  have hp2 : S2[S.length]? = some (.lst (ws.map .int)) := by
    show (S ++ [_] ++ [_])[S.length]? = _
    rw [List.getElem?_append_left (by simp), List.getElem?_append_right (Nat.le_refl _), Nat.sub_self]; rfl
  have hq2 : S2[S1.length]? = some (.lst (([] : List Int).map .int)) := by
    show (S1 ++ [_])[S1.length]? = _
    rw [List.getElem?_append_right (Nat.le_refl _), Nat.sub_self]; rfl
  have hwl : ws.length = k := by simp [ws]
  obtain ⟨y4, S3, fs, e3, h3, q3, p3, l3⟩ := or_loop (n := n) (p := S.length) (q := S1.length) (a := some (.int (k : Int))) (P := fun j => 0 ≤ j ∧ j < (k : Int)) (by omega) (by omega) (by omega) (rangeD 0 k) S2 ws [] none hd2 hp2 hq2 (fun w hw => by
    obtain ⟨i, hi, rfl⟩ := List.mem_map.mp hw
    rw [List.mem_range] at hi
    omega) (fun f hf => by cases hf) (by rw [rangeD_length]; omega) (by omega) (by rw [rangeD_length]; simp only [List.length_nil]; omega)
  rw [rangeD_length, List.length_nil, Nat.zero_add] at l3
  have tu : tupleD [.ref S1.length] S3 = .ok (clT fs) S3 := by simp only [tupleD, seq_ref q3]
  refine ⟨fs, S3, ?_, h3, l3, p3⟩
  have er : mListRg true (mRg1 (mVar 1)) [some (.ref n), some (.int (k : Int)), none, none, none] S = .ok (.ref S.length) S1 := by
    show bnd _ (listRg true) S = _
    have e5 : mRg1 (mVar 1) [some (.ref n), some (.int (k : Int)), none, none, none] S = .ok (0, (k : Int)) S := by
      show bnd _ _ S = _
      simp only [e_fnRun, e_bnd, e_bndS, e_seq, e_if, e_ret, e_retN, e_set, e_expr, e_raise, e_nil, e_par, e_asg, e_sub, e_args0, e_args1, e_rt, e_some, e_var, e_k, e_call, e_un, e_op, e_test, e_boolD, e_bAnd, e_bOr, e_bNot, e_mAnd, e_mOr, e_mNot, e_mIf, e_chain, e_tup, e_lst, e_own, e_isN, e_notN, e_part, e_noPart, e_intD, e_sl, e_seqM, e_its, e_tupM, e_lstM, e_yes, e_el, e_gtN, e_gtNil, e_gtCons, e_gtTup, e_addI, e_subI, e_ltI, e_leI, e_gtI, e_geI, e_negI, e_lenT, e_lenL, e_tupT, e_tupL, e_lstT, e_slT, e_slL, e_ix0, e_ix1, e_ix2, e_il0, e_il1, e_il2, D.isNon, List.map_cons, List.map_nil, List.cons_append, List.nil_append, List.length_cons, List.length_nil, Nat.reduceAdd, Nat.reduceSub, List.replicate_succ, List.replicate_zero, List.set_cons_zero, List.set_cons_succ, List.getElem?_cons_zero, List.getElem?_cons_succ, Option.join_some, wipeE, if_true, if_false, reduceIte, Bool.false_eq_true, Bool.not_true, Bool.not_false]
    rw [e_bnd, e5]
    simp only [listRg]
    rw [if_pos (L2.RgOk.of_le (by omega) (by omega) (by omega) (by omega)), if_pos trivial]
    show (R.ok (D.ref S.length) (S ++ [.lst (rangeD 0 ((k : Int) - 0).toNat)]) : R D) = R.ok (D.ref S.length) (S ++ [.lst (((List.range k).map fun i : Nat => 0 + (i : Int)).map D.int)])
    rw [show ((k : Int) - 0).toNat = k by omega, List.map_map]
    rfl
  have eg : range1M [.int (k : Int)] S2 = .ok (rangeD 0 k, fun _ => True) S2 := by
    simp only [range1M]
    rw [if_pos ⟨by omega, by omega⟩]
    rfl
  unfold m__law_order
  simp only [e_fnRun, e_bnd, e_bndS, e_seq, e_if, e_ret, e_retN, e_set, e_expr, e_raise, e_nil, e_par, e_asg, e_sub, e_args0, e_args1, e_rt, e_some, e_var, e_k, e_call, e_un, e_op, e_test, e_boolD, e_bAnd, e_bOr, e_bNot, e_mAnd, e_mOr, e_mNot, e_mIf, e_chain, e_tup, e_lst, e_own, e_isN, e_notN, e_part, e_noPart, e_intD, e_sl, e_seqM, e_its, e_tupM, e_lstM, e_yes, e_el, e_gtN, e_gtNil, e_gtCons, e_gtTup, e_addI, e_subI, e_ltI, e_leI, e_gtI, e_geI, e_negI, e_lenT, e_lenL, e_tupT, e_tupL, e_lstT, e_slT, e_slL, e_ix0, e_ix1, e_ix2, e_il0, e_il1, e_il2, D.isNon, List.map_cons, List.map_nil, List.cons_append, List.nil_append, List.length_cons, List.length_nil, Nat.reduceAdd, Nat.reduceSub, List.replicate_succ, List.replicate_zero, List.set_cons_zero, List.set_cons_succ, List.getElem?_cons_zero, List.getElem?_cons_succ, Option.join_some, wipeE, if_true, if_false, reduceIte, Bool.false_eq_true, Bool.not_true, Bool.not_false, er]
  rw [show S1 ++ [.lst []] = S2 from rfl]
  simp only [e_fnRun, e_bnd, e_bndS, e_seq, e_if, e_ret, e_retN, e_set, e_expr, e_raise, e_nil, e_par, e_asg, e_sub, e_args0, e_args1, e_rt, e_some, e_var, e_k, e_call, e_un, e_op, e_test, e_boolD, e_bAnd, e_bOr, e_bNot, e_mAnd, e_mOr, e_mNot, e_mIf, e_chain, e_tup, e_lst, e_own, e_isN, e_notN, e_part, e_noPart, e_intD, e_sl, e_seqM, e_its, e_tupM, e_lstM, e_yes, e_el, e_gtN, e_gtNil, e_gtCons, e_gtTup, e_addI, e_subI, e_ltI, e_leI, e_gtI, e_geI, e_negI, e_lenT, e_lenL, e_tupT, e_tupL, e_lstT, e_slT, e_slL, e_ix0, e_ix1, e_ix2, e_il0, e_il1, e_il2, D.isNon, List.map_cons, List.map_nil, List.cons_append, List.nil_append, List.length_cons, List.length_nil, Nat.reduceAdd, Nat.reduceSub, List.replicate_succ, List.replicate_zero, List.set_cons_zero, List.set_cons_succ, List.getElem?_cons_zero, List.getElem?_cons_succ, Option.join_some, wipeE, if_true, if_false, reduceIte, Bool.false_eq_true, Bool.not_true, Bool.not_false, e_for, eg]
  unfold orB at e3
  rw [e3]
  simp only [e_fnRun, e_bnd, e_bndS, e_seq, e_if, e_ret, e_retN, e_set, e_expr, e_raise, e_nil, e_par, e_asg, e_sub, e_args0, e_args1, e_rt, e_some, e_var, e_k, e_call, e_un, e_op, e_test, e_boolD, e_bAnd, e_bOr, e_bNot, e_mAnd, e_mOr, e_mNot, e_mIf, e_chain, e_tup, e_lst, e_own, e_isN, e_notN, e_part, e_noPart, e_intD, e_sl, e_seqM, e_its, e_tupM, e_lstM, e_yes, e_el, e_gtN, e_gtNil, e_gtCons, e_gtTup, e_addI, e_subI, e_ltI, e_leI, e_gtI, e_geI, e_negI, e_lenT, e_lenL, e_tupT, e_tupL, e_lstT, e_slT, e_slL, e_ix0, e_ix1, e_ix2, e_il0, e_il1, e_il2, D.isNon, List.map_cons, List.map_nil, List.cons_append, List.nil_append, List.length_cons, List.length_nil, Nat.reduceAdd, Nat.reduceSub, List.replicate_succ, List.replicate_zero, List.set_cons_zero, List.set_cons_succ, List.getElem?_cons_zero, List.getElem?_cons_succ, Option.join_some, wipeE, if_true, if_false, reduceIte, Bool.false_eq_true, Bool.not_true, Bool.not_false, tu]
/-! ### clauses drawn -/
theorem lcD_sub {f : D → M (Option D)} {I : Store → Prop} {Q : D → Prop} : ∀ {ds : List D}, (∀ d ∈ ds, ∀ S, I S → ∃ o S', f d S = .ok o S' ∧ I S' ∧ ∀ x, o = some x → Q x) → ∀ {S : Store}, I S → ∃ xs S', lcD (fun _ => True) f ds S = .ok xs S' ∧ I S' ∧ xs.length ≤ ds.length ∧ ∀ x ∈ xs, Q x
  | [], _, S, p => ⟨[], S, by simp only [lcD, if_true], p, Nat.le_refl _, fun _ h => by cases h⟩
  | d :: ds, h, S, p => by
    obtain ⟨o, S', h1, p1, q1⟩ := h d List.mem_cons_self S p
    obtain ⟨xs, S2, h2, p2, l2, q2⟩ := lcD_sub (fun d' hd' => h d' (List.mem_cons_of_mem _ hd')) p1
    refine ⟨o.toList ++ xs, S2, ?_, p2, ?_, fun y hy => ?_⟩
    · simp only [lcD, if_true, h1, h2]
    · rw [List.length_append, List.length_cons]
      have : o.toList.length ≤ 1 := by cases o <;> simp
      omega
    · rcases List.mem_append.mp hy with e | hy
      · exact q1 y (by cases o with
          | none => cases e
          | some z => simp at e; rw [e])
      · exact q2 y hy
theorem css_of {Q : List Int → Prop} : ∀ {xs : List D}, (∀ x ∈ xs, ∃ ns : List Int, x = clT ns ∧ Q ns) → ∃ css : List (List Int), xs = css.map clT ∧ ∀ ns ∈ css, Q ns
  | [], _ => ⟨[], rfl, fun _ h => by cases h⟩
  | x :: xs, h => by
    obtain ⟨css, rfl, h2⟩ := css_of fun y hy => h y (List.mem_cons_of_mem _ hy)
    obtain ⟨ns, rfl, q⟩ := h x List.mem_cons_self
    refine ⟨ns :: css, rfl, fun ms hm => ?_⟩
    rcases List.mem_cons.mp hm with e | hm
    · subst e; exact q
    · exact h2 ms hm
theorem pair_cl {c i j : Int} (hc : 2 ≤ c) (hi : i = 1 ∨ i = -1) (hj : j = 2 ∨ j = -2) : Cl c (sortI [i, j]) ∧ (sortI [i, j]).length ≤ 3 := by
  have hm : ∀ k, k ∈ sortI [i, j] ↔ k = i ∨ k = j := fun k => by rw [(sortI_perm [i, j]).mem_iff]; simp
  have hnd : [i, j].Nodup := by simp; omega
  refine ⟨⟨fun k hk => ?_, sortI_lt hnd, fun k hk hk2 => ?_⟩, by rw [(sortI_perm [i, j]).length_eq]; simp⟩
  · have := (hm k).mp hk
    omega
  · have h1 := (hm k).mp hk
    have h2 := (hm _).mp hk2
    omega
end K14

set_option Elab.async false
set_option maxRecDepth 100000
set_option linter.all false
set_option maxHeartbeats 4000000
namespace K14
open PySem hiding ret
open Mir
open Classical

theorem lc_true {own : List Nat} {mi : Mir.Env → M Its} {f : D → Mir.Env → Store → Option Mir.Env} {mt : Mir.Env → M Bool} {me : Mir.Env → M D} {env : Mir.Env} {S S1 S' : Store} {ds xs : List D} {g : Store → Prop} (h1 : mi env S = .ok (ds, g) S1) (hg : ∀ S, g S) (h : lcD (fun _ => True) (elD (wipeE env own) f mt me) ds S1 = .ok xs S') : mLc own mi f mt me resF env S = .ok (.lst xs) S' := by
  unfold mLc
  rw [e_bnd, h1]
  show bnd (lcD g _ ds) resF S1 = _
  rw [e_bnd, lcD_true hg, h]
  rfl
def Q3 (c : Int) (x : D) : Prop := ∃ ns : List Int, x = clT ns ∧ Cl c ns ∧ ns.length ≤ 3
theorem law_clauses_ok {S : Store} {n : Nat} {c : Int} (h : Dk S n) (c0 : 1 ≤ c) (c1 : c ≤ 8) : ∃ css S', m__law_clauses [.ref n, .int c, .int 12] S = .ok (csT css) S' ∧ Dk S' n ∧ Cs c css := by
  have hs := sl_small
  obtain ⟨t, S1, e1, t0, t1, v1⟩ := draw_ok (m := 13) h (by decide) (by decide)
  have eg : range1M [.int t] S1 = .ok (rangeD 0 t.toNat, fun _ => True) S1 := by
    simp only [range1M]
    rw [if_pos ⟨by omega, by omega⟩]
  -- the clauses
  obtain ⟨xs, S2, e2, h2, l2, q2⟩ := lcD_sub (f := elD (wipeE [some (.ref n), some (.int c), some (.int 12), none, none, none, none, none, none, none] [6]) (gtN 6) bYes (mCall m__law_some_clause [(mVar 0), (mVar 1), (mK (.int 3))])) (I := fun S => Dk S n) (Q := Q3 c) (ds := rangeD 0 t.toNat)
    (fun d hd S hS => by
      obtain ⟨ns, S', e, h', k1, k2⟩ := some_clause_ok (c := c) hS c0 c1 (mo := 3) (by decide) (by decide)
      refine ⟨some (clT ns), S', ?_, h', fun x hx => by cases hx; exact ⟨ns, rfl, k1, by omega⟩⟩
      simp only [e_fnRun, e_bnd, e_bndS, e_seq, e_if, e_ret, e_retN, e_set, e_expr, e_raise, e_nil, e_par, e_asg, e_sub, e_args0, e_args1, e_rt, e_some, e_var, e_k, e_call, e_un, e_op, e_test, e_boolD, e_bAnd, e_bOr, e_bNot, e_mAnd, e_mOr, e_mNot, e_mIf, e_chain, e_tup, e_lst, e_own, e_isN, e_notN, e_part, e_noPart, e_intD, e_sl, e_seqM, e_its, e_tupM, e_lstM, e_yes, e_el, e_gtN, e_gtNil, e_gtCons, e_gtTup, e_addI, e_subI, e_ltI, e_leI, e_gtI, e_geI, e_negI, e_lenT, e_lenL, e_tupT, e_tupL, e_lstT, e_slT, e_slL, e_ix0, e_ix1, e_ix2, e_il0, e_il1, e_il2, D.isNon, List.map_cons, List.map_nil, List.cons_append, List.nil_append, List.length_cons, List.length_nil, Nat.reduceAdd, Nat.reduceSub, List.replicate_succ, List.replicate_zero, List.set_cons_zero, List.set_cons_succ, List.getElem?_cons_zero, List.getElem?_cons_succ, Option.join_some, wipeE, if_true, if_false, reduceIte, Bool.false_eq_true, Bool.not_true, Bool.not_false, e]) v1.2.2
  rw [rangeD_length] at l2
  have a1 : mLc [6] (mIts range1M [(mCall m__law_draw [(mVar 0), (mOp addD (mVar 2) (mK (.int 1)))])]) (gtN 6) bYes (mCall m__law_some_clause [(mVar 0), (mVar 1), (mK (.int 3))]) resF [some (.ref n), some (.int c), some (.int 12), none, none, none, none, none, none, none] S = .ok (.lst xs) S2 :=
    lc_true (by simp only [e_fnRun, e_bnd, e_bndS, e_seq, e_if, e_ret, e_retN, e_set, e_expr, e_raise, e_nil, e_par, e_asg, e_sub, e_args0, e_args1, e_rt, e_some, e_var, e_k, e_call, e_un, e_op, e_test, e_boolD, e_bAnd, e_bOr, e_bNot, e_mAnd, e_mOr, e_mNot, e_mIf, e_chain, e_tup, e_lst, e_own, e_isN, e_notN, e_part, e_noPart, e_intD, e_sl, e_seqM, e_its, e_tupM, e_lstM, e_yes, e_el, e_gtN, e_gtNil, e_gtCons, e_gtTup, e_addI, e_subI, e_ltI, e_leI, e_gtI, e_geI, e_negI, e_lenT, e_lenL, e_tupT, e_tupL, e_lstT, e_slT, e_slL, e_ix0, e_ix1, e_ix2, e_il0, e_il1, e_il2, D.isNon, List.map_cons, List.map_nil, List.cons_append, List.nil_append, List.length_cons, List.length_nil, Nat.reduceAdd, Nat.reduceSub, List.replicate_succ, List.replicate_zero, List.set_cons_zero, List.set_cons_succ, List.getElem?_cons_zero, List.getElem?_cons_succ, Option.join_some, wipeE, if_true, if_false, reduceIte, Bool.false_eq_true, Bool.not_true, Bool.not_false, show (12 : Int) + 1 = 13 from rfl, e1, eg]) (fun _ => trivial) e2
  -- () is mostly left out
  obtain ⟨ys, S3, e3, h3, l3, q3⟩ := lcD_sub (f := elD (wipeE [some (.ref n), some (.int c), some (.int 12), some (.lst xs), none, none, none, none, none, none] [7]) (gtN 7) (bOr (mTest (mOp neD (mVar 7) (mTup []))) (mTest (mOp eqD (mCall m__law_draw [(mVar 0), (mK (.int 4))]) (mK (.int 0))))) (mVar 7)) (I := fun S => Dk S n) (Q := Q3 c) (ds := xs)
    (fun d hd S hS => by
      obtain ⟨ns, rfl, k1, k2⟩ := q2 d hd
      have ne := pl_ne (pyDs_ints ns) (layAll_ints ns) S
      by_cases hn : ns.map D.int = []
      · obtain ⟨r, S', e, r0, r1, v⟩ := draw_ok (m := 4) hS (by decide) (by decide)
        by_cases hr : r = 0
        · refine ⟨some (clT ns), S', ?_, v.2.2, fun x hx => by cases hx; exact ⟨ns, rfl, k1, k2⟩⟩
          simp only [e_fnRun, e_bnd, e_bndS, e_seq, e_if, e_ret, e_retN, e_set, e_expr, e_raise, e_nil, e_par, e_asg, e_sub, e_args0, e_args1, e_rt, e_some, e_var, e_k, e_call, e_un, e_op, e_test, e_boolD, e_bAnd, e_bOr, e_bNot, e_mAnd, e_mOr, e_mNot, e_mIf, e_chain, e_tup, e_lst, e_own, e_isN, e_notN, e_part, e_noPart, e_intD, e_sl, e_seqM, e_its, e_tupM, e_lstM, e_yes, e_el, e_gtN, e_gtNil, e_gtCons, e_gtTup, e_addI, e_subI, e_ltI, e_leI, e_gtI, e_geI, e_negI, e_lenT, e_lenL, e_tupT, e_tupL, e_lstT, e_slT, e_slL, e_ix0, e_ix1, e_ix2, e_il0, e_il1, e_il2, D.isNon, List.map_cons, List.map_nil, List.cons_append, List.nil_append, List.length_cons, List.length_nil, Nat.reduceAdd, Nat.reduceSub, List.replicate_succ, List.replicate_zero, List.set_cons_zero, List.set_cons_succ, List.getElem?_cons_zero, List.getElem?_cons_succ, Option.join_some, wipeE, if_true, if_false, reduceIte, Bool.false_eq_true, Bool.not_true, Bool.not_false, ne, ne_eq, hn, not_true, decide_false, e, eq_int, hr, decide_true]
        · refine ⟨none, S', ?_, v.2.2, fun x hx => by cases hx⟩
          simp only [e_fnRun, e_bnd, e_bndS, e_seq, e_if, e_ret, e_retN, e_set, e_expr, e_raise, e_nil, e_par, e_asg, e_sub, e_args0, e_args1, e_rt, e_some, e_var, e_k, e_call, e_un, e_op, e_test, e_boolD, e_bAnd, e_bOr, e_bNot, e_mAnd, e_mOr, e_mNot, e_mIf, e_chain, e_tup, e_lst, e_own, e_isN, e_notN, e_part, e_noPart, e_intD, e_sl, e_seqM, e_its, e_tupM, e_lstM, e_yes, e_el, e_gtN, e_gtNil, e_gtCons, e_gtTup, e_addI, e_subI, e_ltI, e_leI, e_gtI, e_geI, e_negI, e_lenT, e_lenL, e_tupT, e_tupL, e_lstT, e_slT, e_slL, e_ix0, e_ix1, e_ix2, e_il0, e_il1, e_il2, D.isNon, List.map_cons, List.map_nil, List.cons_append, List.nil_append, List.length_cons, List.length_nil, Nat.reduceAdd, Nat.reduceSub, List.replicate_succ, List.replicate_zero, List.set_cons_zero, List.set_cons_succ, List.getElem?_cons_zero, List.getElem?_cons_succ, Option.join_some, wipeE, if_true, if_false, reduceIte, Bool.false_eq_true, Bool.not_true, Bool.not_false, ne, ne_eq, hn, not_true, decide_false, e, eq_int, hr]
      · refine ⟨some (clT ns), S, ?_, hS, fun x hx => by cases hx; exact ⟨ns, rfl, k1, k2⟩⟩
        simp only [e_fnRun, e_bnd, e_bndS, e_seq, e_if, e_ret, e_retN, e_set, e_expr, e_raise, e_nil, e_par, e_asg, e_sub, e_args0, e_args1, e_rt, e_some, e_var, e_k, e_call, e_un, e_op, e_test, e_boolD, e_bAnd, e_bOr, e_bNot, e_mAnd, e_mOr, e_mNot, e_mIf, e_chain, e_tup, e_lst, e_own, e_isN, e_notN, e_part, e_noPart, e_intD, e_sl, e_seqM, e_its, e_tupM, e_lstM, e_yes, e_el, e_gtN, e_gtNil, e_gtCons, e_gtTup, e_addI, e_subI, e_ltI, e_leI, e_gtI, e_geI, e_negI, e_lenT, e_lenL, e_tupT, e_tupL, e_lstT, e_slT, e_slL, e_ix0, e_ix1, e_ix2, e_il0, e_il1, e_il2, D.isNon, List.map_cons, List.map_nil, List.cons_append, List.nil_append, List.length_cons, List.length_nil, Nat.reduceAdd, Nat.reduceSub, List.replicate_succ, List.replicate_zero, List.set_cons_zero, List.set_cons_succ, List.getElem?_cons_zero, List.getElem?_cons_succ, Option.join_some, wipeE, if_true, if_false, reduceIte, Bool.false_eq_true, Bool.not_true, Bool.not_false, ne, ne_eq, hn, not_false_eq_true, decide_true]) h2
  have a2 : mLc [7] (mSeq (mVar 3)) (gtN 7) (bOr (mTest (mOp neD (mVar 7) (mTup []))) (mTest (mOp eqD (mCall m__law_draw [(mVar 0), (mK (.int 4))]) (mK (.int 0))))) (mVar 7) resF [some (.ref n), some (.int c), some (.int 12), some (.lst xs), none, none, none, none, none, none] S2 = .ok (.lst ys) S3 :=
    lc_true (g := fun S' => seqOf S' (.lst xs) = some (false, xs)) (by simp only [e_fnRun, e_bnd, e_bndS, e_seq, e_if, e_ret, e_retN, e_set, e_expr, e_raise, e_nil, e_par, e_asg, e_sub, e_args0, e_args1, e_rt, e_some, e_var, e_k, e_call, e_un, e_op, e_test, e_boolD, e_bAnd, e_bOr, e_bNot, e_mAnd, e_mOr, e_mNot, e_mIf, e_chain, e_tup, e_lst, e_own, e_isN, e_notN, e_part, e_noPart, e_intD, e_sl, e_seqM, e_its, e_tupM, e_lstM, e_yes, e_el, e_gtN, e_gtNil, e_gtCons, e_gtTup, e_addI, e_subI, e_ltI, e_leI, e_gtI, e_geI, e_negI, e_lenT, e_lenL, e_tupT, e_tupL, e_lstT, e_slT, e_slL, e_ix0, e_ix1, e_ix2, e_il0, e_il1, e_il2, D.isNon, List.map_cons, List.map_nil, List.cons_append, List.nil_append, List.length_cons, List.length_nil, Nat.reduceAdd, Nat.reduceSub, List.replicate_succ, List.replicate_zero, List.set_cons_zero, List.set_cons_succ, List.getElem?_cons_zero, List.getElem?_cons_succ, Option.join_some, wipeE, if_true, if_false, reduceIte, Bool.false_eq_true, Bool.not_true, Bool.not_false]) (fun _ => rfl) e3
  -- behind the four pairs
  have a3 : ∃ zs z4 z5 S4, sIf (bAnd (mTest (mOp gtD (mVar 1) (mK (.int 1)))) (mTest (mOp eqD (mCall m__law_draw [(mVar 0), (mK (.int 4))]) (mK (.int 0))))) (sSeq (sPar 4 5 [(mOp ixD (mLst [(mK (.int 1)), (mUn negD (mK (.int 1)))]) (mCall m__law_draw [(mVar 0), (mK (.int 2))])), (mOp ixD (mLst [(mK (.int 2)), (mUn negD (mK (.int 2)))]) (mCall m__law_draw [(mVar 0), (mK (.int 2))]))])
      (sSet 3 (mOp addD (mVar 3) (mLc [8] (mSeq (mLst [(mTup [(mVar 4), (mVar 5)]), (mTup [(mUn negD (mVar 4)), (mVar 5)]), (mTup [(mVar 4), (mUn negD (mVar 5))]), (mTup [(mUn negD (mVar 4)), (mUn negD (mVar 5))])])) (gtN 8) bYes (mCall tupleD [(mCall sortedTp [(mVar 8)])]) resF)))) sNil
      [some (.ref n), some (.int c), some (.int 12), some (.lst ys), none, none, none, none, none, none] S3 = .nx [some (.ref n), some (.int c), some (.int 12), some (.lst zs), z4, z5, none, none, none, none] S4 ∧ Dk S4 n ∧ zs.length ≤ 20 ∧ ∀ x ∈ zs, Q3 c x := by
    by_cases hc : 1 < c
    · obtain ⟨r, S4, e4, r0, r1, v4⟩ := draw_ok (m := 4) h3 (by decide) (by decide)
      by_cases hr : r = 0
      · obtain ⟨i, S5, e5, i0, i1, v5⟩ := draw_ok (m := 2) v4.2.2 (by decide) (by decide)
        obtain ⟨j, S6, e6, j0, j1, v6⟩ := draw_ok (m := 2) v5.2.2 (by decide) (by decide)
        obtain ⟨one, ho, x1⟩ : ∃ one : Int, (one = 1 ∨ one = -1) ∧ ixD (.lst [.int 1, .int (-1)]) (.int i) S5 = .ok (.int one) S5 := by
          rcases (show i = 0 ∨ i = 1 by omega) with rfl | rfl
          · exact ⟨1, .inl rfl, e_il0⟩
          · exact ⟨-1, .inr rfl, e_il1⟩
        obtain ⟨oth, hp, x2⟩ : ∃ oth : Int, (oth = 2 ∨ oth = -2) ∧ ixD (.lst [.int 2, .int (-2)]) (.int j) S6 = .ok (.int oth) S6 := by
          rcases (show j = 0 ∨ j = 1 by omega) with rfl | rfl
          · exact ⟨2, .inl rfl, e_il0⟩
          · exact ⟨-2, .inr rfl, e_il1⟩
        let ps : List (List Int) := [[one, oth], [-one, oth], [one, -oth], [-one, -oth]]
        have x3 : mLc [8] (mSeq (mLst [(mTup [(mVar 4), (mVar 5)]), (mTup [(mUn negD (mVar 4)), (mVar 5)]), (mTup [(mVar 4), (mUn negD (mVar 5))]), (mTup [(mUn negD (mVar 4)), (mUn negD (mVar 5))])])) (gtN 8) bYes (mCall tupleD [(mCall sortedTp [(mVar 8)])]) resF
            [some (.ref n), some (.int c), some (.int 12), some (.lst ys), some (.int one), some (.int oth), none, none, none, none] S6 = .ok (.lst ((ps.map clT).map fun d => match d with | .tup xs => (match intsOf xs with | some ns => clT (sortI ns) | none => .non) | _ => .non)) S6 :=
          mLcL_map (ds := ps.map clT) (by simp only [e_fnRun, e_bnd, e_bndS, e_seq, e_if, e_ret, e_retN, e_set, e_expr, e_raise, e_nil, e_par, e_asg, e_sub, e_args0, e_args1, e_rt, e_some, e_var, e_k, e_call, e_un, e_op, e_test, e_boolD, e_bAnd, e_bOr, e_bNot, e_mAnd, e_mOr, e_mNot, e_mIf, e_chain, e_tup, e_lst, e_own, e_isN, e_notN, e_part, e_noPart, e_intD, e_sl, e_seqM, e_its, e_tupM, e_lstM, e_yes, e_el, e_gtN, e_gtNil, e_gtCons, e_gtTup, e_addI, e_subI, e_ltI, e_leI, e_gtI, e_geI, e_negI, e_lenT, e_lenL, e_tupT, e_tupL, e_lstT, e_slT, e_slL, e_ix0, e_ix1, e_ix2, e_il0, e_il1, e_il2, D.isNon, List.map_cons, List.map_nil, List.cons_append, List.nil_append, List.length_cons, List.length_nil, Nat.reduceAdd, Nat.reduceSub, List.replicate_succ, List.replicate_zero, List.set_cons_zero, List.set_cons_succ, List.getElem?_cons_zero, List.getElem?_cons_succ, Option.join_some, wipeE, if_true, if_false, reduceIte, Bool.false_eq_true, Bool.not_true, Bool.not_false]; rfl) _ fun d hd => by
            obtain ⟨ns, _, rfl⟩ := List.mem_map.mp hd
            have : sortedTp [clT ns] S6 = .ok (.lst ((sortI ns).map .int)) S6 := by simp only [sortedTp, intsOf_map]
            simp only [e_fnRun, e_bnd, e_bndS, e_seq, e_if, e_ret, e_retN, e_set, e_expr, e_raise, e_nil, e_par, e_asg, e_sub, e_args0, e_args1, e_rt, e_some, e_var, e_k, e_call, e_un, e_op, e_test, e_boolD, e_bAnd, e_bOr, e_bNot, e_mAnd, e_mOr, e_mNot, e_mIf, e_chain, e_tup, e_lst, e_own, e_isN, e_notN, e_part, e_noPart, e_intD, e_sl, e_seqM, e_its, e_tupM, e_lstM, e_yes, e_el, e_gtN, e_gtNil, e_gtCons, e_gtTup, e_addI, e_subI, e_ltI, e_leI, e_gtI, e_geI, e_negI, e_lenT, e_lenL, e_tupT, e_tupL, e_lstT, e_slT, e_slL, e_ix0, e_ix1, e_ix2, e_il0, e_il1, e_il2, D.isNon, List.map_cons, List.map_nil, List.cons_append, List.nil_append, List.length_cons, List.length_nil, Nat.reduceAdd, Nat.reduceSub, List.replicate_succ, List.replicate_zero, List.set_cons_zero, List.set_cons_succ, List.getElem?_cons_zero, List.getElem?_cons_succ, Option.join_some, wipeE, if_true, if_false, reduceIte, Bool.false_eq_true, Bool.not_true, Bool.not_false, this, intsOf_map]
        refine ⟨ys ++ (ps.map clT).map fun d => match d with | .tup xs => (match intsOf xs with | some ns => clT (sortI ns) | none => .non) | _ => .non, some (.int one), some (.int oth), S6, ?_, v6.2.2, ?_, fun x hx => ?_⟩
        · simp only [e_fnRun, e_bnd, e_bndS, e_seq, e_if, e_ret, e_retN, e_set, e_expr, e_raise, e_nil, e_par, e_asg, e_sub, e_args0, e_args1, e_rt, e_some, e_var, e_k, e_call, e_un, e_op, e_test, e_boolD, e_bAnd, e_bOr, e_bNot, e_mAnd, e_mOr, e_mNot, e_mIf, e_chain, e_tup, e_lst, e_own, e_isN, e_notN, e_part, e_noPart, e_intD, e_sl, e_seqM, e_its, e_tupM, e_lstM, e_yes, e_el, e_gtN, e_gtNil, e_gtCons, e_gtTup, e_addI, e_subI, e_ltI, e_leI, e_gtI, e_geI, e_negI, e_lenT, e_lenL, e_tupT, e_tupL, e_lstT, e_slT, e_slL, e_ix0, e_ix1, e_ix2, e_il0, e_il1, e_il2, D.isNon, List.map_cons, List.map_nil, List.cons_append, List.nil_append, List.length_cons, List.length_nil, Nat.reduceAdd, Nat.reduceSub, List.replicate_succ, List.replicate_zero, List.set_cons_zero, List.set_cons_succ, List.getElem?_cons_zero, List.getElem?_cons_succ, Option.join_some, wipeE, if_true, if_false, reduceIte, Bool.false_eq_true, Bool.not_true, Bool.not_false, hc, decide_true, e4, eq_int, hr, e5, x1, e6, x2, x3]
          rw [e_addL (by rw [List.length_map, List.length_map]; show ys.length + 4 ≤ _; omega)]
        · rw [List.length_append, List.length_map, List.length_map]
          show ys.length + 4 ≤ 20
          omega
        · rcases List.mem_append.mp hx with z | z
          · exact q3 x z
          · obtain ⟨d, hd, rfl⟩ := List.mem_map.mp z
            obtain ⟨ns, hn, rfl⟩ := List.mem_map.mp hd
            simp only [intsOf_map]
            simp only [ps, List.mem_cons, List.not_mem_nil, or_false] at hn
            rcases hn with rfl | rfl | rfl | rfl
            · obtain ⟨k1, k2⟩ := pair_cl (c := c) (i := one) (j := oth) (by omega) ho hp
              exact ⟨_, rfl, k1, k2⟩
            · obtain ⟨k1, k2⟩ := pair_cl (c := c) (i := -one) (j := oth) (by omega) (by omega) hp
              exact ⟨_, rfl, k1, k2⟩
            · obtain ⟨k1, k2⟩ := pair_cl (c := c) (i := one) (j := -oth) (by omega) ho (by omega)
              exact ⟨_, rfl, k1, k2⟩
            · obtain ⟨k1, k2⟩ := pair_cl (c := c) (i := -one) (j := -oth) (by omega) (by omega) (by omega)
              exact ⟨_, rfl, k1, k2⟩
      · refine ⟨ys, none, none, S4, ?_, v4.2.2, by omega, q3⟩
        simp only [e_fnRun, e_bnd, e_bndS, e_seq, e_if, e_ret, e_retN, e_set, e_expr, e_raise, e_nil, e_par, e_asg, e_sub, e_args0, e_args1, e_rt, e_some, e_var, e_k, e_call, e_un, e_op, e_test, e_boolD, e_bAnd, e_bOr, e_bNot, e_mAnd, e_mOr, e_mNot, e_mIf, e_chain, e_tup, e_lst, e_own, e_isN, e_notN, e_part, e_noPart, e_intD, e_sl, e_seqM, e_its, e_tupM, e_lstM, e_yes, e_el, e_gtN, e_gtNil, e_gtCons, e_gtTup, e_addI, e_subI, e_ltI, e_leI, e_gtI, e_geI, e_negI, e_lenT, e_lenL, e_tupT, e_tupL, e_lstT, e_slT, e_slL, e_ix0, e_ix1, e_ix2, e_il0, e_il1, e_il2, D.isNon, List.map_cons, List.map_nil, List.cons_append, List.nil_append, List.length_cons, List.length_nil, Nat.reduceAdd, Nat.reduceSub, List.replicate_succ, List.replicate_zero, List.set_cons_zero, List.set_cons_succ, List.getElem?_cons_zero, List.getElem?_cons_succ, Option.join_some, wipeE, if_true, if_false, reduceIte, Bool.false_eq_true, Bool.not_true, Bool.not_false, hc, decide_true, e4, eq_int, hr, decide_false]
    · refine ⟨ys, none, none, S3, ?_, h3, by omega, q3⟩
      simp only [e_fnRun, e_bnd, e_bndS, e_seq, e_if, e_ret, e_retN, e_set, e_expr, e_raise, e_nil, e_par, e_asg, e_sub, e_args0, e_args1, e_rt, e_some, e_var, e_k, e_call, e_un, e_op, e_test, e_boolD, e_bAnd, e_bOr, e_bNot, e_mAnd, e_mOr, e_mNot, e_mIf, e_chain, e_tup, e_lst, e_own, e_isN, e_notN, e_part, e_noPart, e_intD, e_sl, e_seqM, e_its, e_tupM, e_lstM, e_yes, e_el, e_gtN, e_gtNil, e_gtCons, e_gtTup, e_addI, e_subI, e_ltI, e_leI, e_gtI, e_geI, e_negI, e_lenT, e_lenL, e_tupT, e_tupL, e_lstT, e_slT, e_slL, e_ix0, e_ix1, e_ix2, e_il0, e_il1, e_il2, D.isNon, List.map_cons, List.map_nil, List.cons_append, List.nil_append, List.length_cons, List.length_nil, Nat.reduceAdd, Nat.reduceSub, List.replicate_succ, List.replicate_zero, List.set_cons_zero, List.set_cons_succ, List.getElem?_cons_zero, List.getElem?_cons_succ, Option.join_some, wipeE, if_true, if_false, reduceIte, Bool.false_eq_true, Bool.not_true, Bool.not_false, hc, decide_false]
  obtain ⟨zs, z4, z5, S4, a4, h4, l4, q4⟩ := a3
  obtain ⟨ks, S5, e5, h5, l5, k5⟩ := order_ok (k := zs.length) h4 (by omega)
  have x6 : mLc [9] (mSeq (mCall m__law_order [(mVar 0), (mCall lenD [(mVar 3)])])) (gtN 9) bYes (mOp ixD (mVar 3) (mVar 9)) resF [some (.ref n), some (.int c), some (.int 12), some (.lst zs), z4, z5, none, none, none, none] S4 = .ok (.lst (ks.map fun j => zs.getD j.toNat .non)) S5 := by
    have := mLcT_ints (own := [9]) (f := gtN 9) (mt := bYes) (me := mOp ixD (mVar 3) (mVar 9)) (m0 := fun _ S => .ok (clT ks) S) (env := [some (.ref n), some (.int c), some (.int 12), some (.lst zs), z4, z5, none, none, none, none]) (S := S5) (ns := ks) rfl (fun j => zs.getD j.toNat .non) (fun j hj => by
      obtain ⟨j0, j1⟩ := k5 j hj
      obtain ⟨y, hy, ey, ix⟩ := ix_seqOf (S := S5) (d := .lst zs) (b := false) (xs := zs) rfl j0 j1
      have : zs.getD j.toNat .non = y := by rw [List.getD_eq_getElem?_getD, ey]; rfl
      simp only [e_fnRun, e_bnd, e_bndS, e_seq, e_if, e_ret, e_retN, e_set, e_expr, e_raise, e_nil, e_par, e_asg, e_sub, e_args0, e_args1, e_rt, e_some, e_var, e_k, e_call, e_un, e_op, e_test, e_boolD, e_bAnd, e_bOr, e_bNot, e_mAnd, e_mOr, e_mNot, e_mIf, e_chain, e_tup, e_lst, e_own, e_isN, e_notN, e_part, e_noPart, e_intD, e_sl, e_seqM, e_its, e_tupM, e_lstM, e_yes, e_el, e_gtN, e_gtNil, e_gtCons, e_gtTup, e_addI, e_subI, e_ltI, e_leI, e_gtI, e_geI, e_negI, e_lenT, e_lenL, e_tupT, e_tupL, e_lstT, e_slT, e_slL, e_ix0, e_ix1, e_ix2, e_il0, e_il1, e_il2, D.isNon, List.map_cons, List.map_nil, List.cons_append, List.nil_append, List.length_cons, List.length_nil, Nat.reduceAdd, Nat.reduceSub, List.replicate_succ, List.replicate_zero, List.set_cons_zero, List.set_cons_succ, List.getElem?_cons_zero, List.getElem?_cons_succ, Option.join_some, wipeE, if_true, if_false, reduceIte, Bool.false_eq_true, Bool.not_true, Bool.not_false, ix, this])
    unfold mLc at this ⊢
    rw [e_bnd] at this ⊢
    simp only [e_fnRun, e_bnd, e_bndS, e_seq, e_if, e_ret, e_retN, e_set, e_expr, e_raise, e_nil, e_par, e_asg, e_sub, e_args0, e_args1, e_rt, e_some, e_var, e_k, e_call, e_un, e_op, e_test, e_boolD, e_bAnd, e_bOr, e_bNot, e_mAnd, e_mOr, e_mNot, e_mIf, e_chain, e_tup, e_lst, e_own, e_isN, e_notN, e_part, e_noPart, e_intD, e_sl, e_seqM, e_its, e_tupM, e_lstM, e_yes, e_el, e_gtN, e_gtNil, e_gtCons, e_gtTup, e_addI, e_subI, e_ltI, e_leI, e_gtI, e_geI, e_negI, e_lenT, e_lenL, e_tupT, e_tupL, e_lstT, e_slT, e_slL, e_ix0, e_ix1, e_ix2, e_il0, e_il1, e_il2, D.isNon, List.map_cons, List.map_nil, List.cons_append, List.nil_append, List.length_cons, List.length_nil, Nat.reduceAdd, Nat.reduceSub, List.replicate_succ, List.replicate_zero, List.set_cons_zero, List.set_cons_succ, List.getElem?_cons_zero, List.getElem?_cons_succ, Option.join_some, wipeE, if_true, if_false, reduceIte, Bool.false_eq_true, Bool.not_true, Bool.not_false, e5]
    simp only [e_fnRun, e_bnd, e_bndS, e_seq, e_if, e_ret, e_retN, e_set, e_expr, e_raise, e_nil, e_par, e_asg, e_sub, e_args0, e_args1, e_rt, e_some, e_var, e_k, e_call, e_un, e_op, e_test, e_boolD, e_bAnd, e_bOr, e_bNot, e_mAnd, e_mOr, e_mNot, e_mIf, e_chain, e_tup, e_lst, e_own, e_isN, e_notN, e_part, e_noPart, e_intD, e_sl, e_seqM, e_its, e_tupM, e_lstM, e_yes, e_el, e_gtN, e_gtNil, e_gtCons, e_gtTup, e_addI, e_subI, e_ltI, e_leI, e_gtI, e_geI, e_negI, e_lenT, e_lenL, e_tupT, e_tupL, e_lstT, e_slT, e_slL, e_ix0, e_ix1, e_ix2, e_il0, e_il1, e_il2, D.isNon, List.map_cons, List.map_nil, List.cons_append, List.nil_append, List.length_cons, List.length_nil, Nat.reduceAdd, Nat.reduceSub, List.replicate_succ, List.replicate_zero, List.set_cons_zero, List.set_cons_succ, List.getElem?_cons_zero, List.getElem?_cons_succ, Option.join_some, wipeE, if_true, if_false, reduceIte, Bool.false_eq_true, Bool.not_true, Bool.not_false] at this
    exact this
  obtain ⟨css, ec, hcs⟩ := css_of (xs := ks.map fun j => zs.getD j.toNat .non) (Q := fun ns => Cl c ns ∧ ns.length ≤ 3) fun x hx => by
    obtain ⟨j, hj, rfl⟩ := List.mem_map.mp hx
    obtain ⟨j0, j1⟩ := k5 j hj
    have hj2 : j.toNat < zs.length := by omega
    rw [List.getD_eq_getElem?_getD, List.getElem?_eq_getElem hj2]
    exact q4 _ (List.getElem_mem hj2)
  have lc := congrArg List.length ec
  rw [List.length_map, List.length_map] at lc
  refine ⟨css, S5, ?_, h5, c0, c1, by omega, hcs⟩
  unfold m__law_clauses
  rw [e_fnRun]
  simp only [List.map_cons, List.map_nil, List.cons_append, List.nil_append, List.length_cons, List.length_nil, Nat.reduceAdd, Nat.reduceSub, List.replicate_succ, List.replicate_zero]
  rw [e_seq, e_set, e_bndS, a1]
  dsimp only
  simp only [List.set_cons_zero, List.set_cons_succ]
  rw [e_seq, e_set, e_bndS, a2]
  dsimp only
  simp only [List.set_cons_zero, List.set_cons_succ]
  rw [e_seq, a4]
  simp only [e_fnRun, e_bnd, e_bndS, e_seq, e_if, e_ret, e_retN, e_set, e_expr, e_raise, e_nil, e_par, e_asg, e_sub, e_args0, e_args1, e_rt, e_some, e_var, e_k, e_call, e_un, e_op, e_test, e_boolD, e_bAnd, e_bOr, e_bNot, e_mAnd, e_mOr, e_mNot, e_mIf, e_chain, e_tup, e_lst, e_own, e_isN, e_notN, e_part, e_noPart, e_intD, e_sl, e_seqM, e_its, e_tupM, e_lstM, e_yes, e_el, e_gtN, e_gtNil, e_gtCons, e_gtTup, e_addI, e_subI, e_ltI, e_leI, e_gtI, e_geI, e_negI, e_lenT, e_lenL, e_tupT, e_tupL, e_lstT, e_slT, e_slL, e_ix0, e_ix1, e_ix2, e_il0, e_il1, e_il2, D.isNon, List.map_cons, List.map_nil, List.cons_append, List.nil_append, List.length_cons, List.length_nil, Nat.reduceAdd, Nat.reduceSub, List.replicate_succ, List.replicate_zero, List.set_cons_zero, List.set_cons_succ, List.getElem?_cons_zero, List.getElem?_cons_succ, Option.join_some, wipeE, if_true, if_false, reduceIte, Bool.false_eq_true, Bool.not_true, Bool.not_false, x6, ec]
end K14

set_option Elab.async false
set_option maxRecDepth 100000
set_option linter.all false
set_option maxHeartbeats 4000000
namespace K14
open PySem hiding ret
open Mir
open Classical

/-! ### what is forced holds in every model -/
theorem lit_ix {bs : List Bool} {k : Int} (h1 : 1 ≤ absZ k) (h2 : absZ k ≤ bs.length) (S : Store) : ixD (tT bs) (.int (absZ k - 1)) S = .ok (.bl (bs.getD (absZ k - 1).toNat false)) S := by
  have ei : absZ k - 1 = (((absZ k - 1).toNat : Nat) : Int) := by omega
  have hk2 : (absZ k - 1).toNat < bs.length := by omega
  have e0 : ixD (tT bs) (.int (((absZ k - 1).toNat : Nat) : Int)) S = .ok (.bl (bs.getD (absZ k - 1).toNat false)) S :=
    e_ixT (by rw [List.getElem?_map, List.getElem?_eq_getElem hk2, List.getD_eq_getElem?_getD, List.getElem?_eq_getElem hk2]; rfl)
  rw [← ei] at e0
  exact e0
theorem absD_ok (k : Int) (S : Store) : absD [.int k] S = .ok (.int (absZ k)) S := rfl
theorem abs_in {c k : Int} (h : k ≠ 0 ∧ -c ≤ k ∧ k ≤ c) : 1 ≤ absZ k ∧ absZ k ≤ c := by
  unfold absZ
  split <;> omega
section
variable {c : Int} {css : List (List Int)} {ns : List Int}
theorem fc_in (h : Cs c css) (hn : ∀ k ∈ ns, k ≠ 0 ∧ -c ≤ k ∧ k ≤ c) {k : Int} (hk : Fc css ns k) : k ≠ 0 ∧ -c ≤ k ∧ k ≤ c := by
  cases hk with
  | base h1 => exact hn k h1
  | step h1 h2 _ => exact (h.cl _ h1).1.1 k h2
theorem lit_pos {bs : List Bool} {k : Int} (h0 : k ≠ 0) (h : lit bs k = false) : lit bs (-k) = true := by
  unfold lit at *
  have e : absZ (-k) = absZ k := by unfold absZ; split <;> split <;> omega
  rw [e]
  generalize bs.getD (absZ k - 1).toNat false = b at *
  by_cases hk : 0 < k
  · rw [decide_eq_true hk] at h
    rw [decide_eq_false (by omega : ¬ 0 < -k)]
    cases b <;> first | rfl | cases h
  · rw [decide_eq_false hk] at h
    rw [decide_eq_true (by omega : 0 < -k)]
    cases b <;> first | rfl | cases h
theorem fc_sound (h : Cs c css) (hn : ∀ k ∈ ns, k ≠ 0 ∧ -c ≤ k ∧ k ≤ c) {bs : List Bool} (hb : hold bs css = true) (hl : ns.all (lit bs) = true) {k : Int} (hk : Fc css ns k) : lit bs k = true := by
  induction hk with
  | base h1 => exact List.all_eq_true.mp hl _ h1
  | @step d k h1 h2 h3 ih =>
    obtain ⟨y, hy, ly⟩ := List.any_eq_true.mp (List.all_eq_true.mp hb d h1)
    by_cases e : y = k
    · rw [← e]; exact ly
    · have := ih y hy e
      have h0 := ((h.cl d h1).1.1 y hy).1
      rw [lit_neg h0 ly] at this
      cases this
theorem bad_none (h : Cs c css) (hn : ∀ k ∈ ns, k ≠ 0 ∧ -c ≤ k ∧ k ≤ c) {bs : List Bool} (hb : hold bs css = true) (hl : ns.all (lit bs) = true) : ¬ Bad css ns := by
  rintro (h1 | ⟨k, h1, h2⟩)
  · have := List.all_eq_true.mp hb [] h1
    cases this
  · have l1 := fc_sound h hn hb hl h1
    have l2 := fc_sound h hn hb hl h2
    rw [lit_neg (fc_in h hn h1).1 l1] at l2
    cases l2
theorem settled_model (h : Cs c css) (hn : ∀ k ∈ ns, k ≠ 0 ∧ -c ≤ k ∧ k ≤ c) (hs : setB css ns = true) : ∃ bs : List Bool, bs.length = c.toNat ∧ hold bs css = true ∧ ns.all (lit bs) = true := by
  unfold setB at hs
  obtain ⟨nb, hs⟩ := of_decide_eq_true hs
  let bs : List Bool := (List.range c.toNat).map fun i : Nat => decide (Fc css ns ((i : Int) + 1))
  have hbl : bs.length = c.toNat := by simp [bs]
  have key : ∀ k, Fc css ns k → lit bs k = true := fun k hk => by
    have hb := fc_in h hn hk
    have ha := abs_in hb
    have hi : (absZ k - 1).toNat < c.toNat := by omega
    have e : bs.getD (absZ k - 1).toNat false = decide (Fc css ns (absZ k)) := by
      rw [List.getD_eq_getElem?_getD]
      show (((List.range c.toNat).map fun i : Nat => decide (Fc css ns ((i : Int) + 1)))[(absZ k - 1).toNat]?).getD false = _
      rw [List.getElem?_map, List.getElem?_range hi]
      show decide (Fc css ns (((absZ k - 1).toNat : Int) + 1)) = _
      rw [show (((absZ k - 1).toNat : Int) + 1) = absZ k by omega]
    unfold lit
    rw [e]
    by_cases hp : 0 < k
    · have : absZ k = k := by unfold absZ; split <;> omega
      rw [this, decide_eq_true hk, decide_eq_true hp]
      rfl
    · have : absZ k = -k := by unfold absZ; split <;> omega
      rw [this, decide_eq_false hp, decide_eq_false (fun z => nb (.inr ⟨k, hk, z⟩))]
      rfl
  refine ⟨bs, hbl, ?_, List.all_eq_true.mpr fun k hk => key k (.base hk)⟩
  unfold hold
  rw [List.all_eq_true]
  intro d hd
  obtain ⟨k, hk, hk2⟩ := hs d hd
  exact List.any_eq_true.mpr ⟨k, hk, key k hk2⟩
end
end K14

set_option Elab.async false
set_option maxRecDepth 100000
set_option linter.all false
set_option maxHeartbeats 4000000
namespace K14
open PySem hiding ret
open Mir
open Classical

theorem tT_pyB (fs : List (List Bool)) : pyD (.lst (fs.map tT)) = some (.list (fs.map fun bs => PyData.tuple (bs.map .bool))) := by
  simp only [pyD, tT_py, Option.map_some]
theorem bools_lay (bs : List Bool) : PyData.canLayAll0 (bs.map PyData.bool) = true := by
  induction bs with
  | nil => rfl
  | cons b bs ih => simp only [List.map_cons, PyData.canLayAll0, PyData.canLay0, ih, Bool.and_self]
theorem tT_lay (fs : List (List Bool)) : PyData.canLayAll0 (fs.map fun bs => PyData.tuple (bs.map .bool)) = true := by
  induction fs with
  | nil => rfl
  | cons f fs ih => simp only [List.map_cons, PyData.canLayAll0, PyData.canLay0, bools_lay, ih, Bool.and_self]
theorem some_eq (fs : List (List Bool)) (S : Store) : eqD (.lst (fs.map tT)) (.lst []) S = .ok (.bl (decide (fs = []))) S ∧ neD (.lst (fs.map tT)) (.lst []) S = .ok (.bl (!decide (fs = []))) S := by
  have hk : eqOk (.list (fs.map fun bs => PyData.tuple (bs.map .bool))) (.list []) := ⟨by simp only [PyData.canLay0]; exact tT_lay fs, rfl, by simp [PyData.depth, PyData.depthAll]⟩
  have h1 : pyOf S (.lst (fs.map tT)) = some (.list (fs.map fun bs => PyData.tuple (bs.map .bool))) := by
    show pyD _ = _
    exact tT_pyB fs
  have h2 : pyOf S (.lst []) = some (.list []) := rfl
  constructor
  · simp only [eqD, h1, h2, if_pos hk, PyData.eqv]
    congr 2
    cases fs <;> rfl
  · simp only [neD, h1, h2, if_pos hk, PyData.eqv]
    congr 3
    cases fs <;> rfl
theorem facts_ok {S : Store} {c : Int} {css : List (List Int)} {ns : List Int} {bss : List (List Bool)} (h : Cs c css) (hn : Cl c ns) (hl : ns.length ≤ 50) (hm : ∀ bs, bs ∈ bss ↔ bs.length = c.toNat ∧ hold bs css = true) :
    ∃ S', m__law_facts_right [.int c, csT css, clT ns, .lst (bss.map tT)] S = .ok (.bl true) S' ∧ ∀ i, i < S.length → S'[i]? = S[i]? := by
  have c0 := h.c0
  obtain ⟨X, S1, e1, f, o1⟩ := law_forced_ok (S := S) (css := css) (ns := ns) (h.U hl) h.nd hn.nd
  let some' : List (List Bool) := bss.filter fun bs => ns.all (lit bs)
  have a1 : mLc [6] (mSeq (mVar 3)) (gtN 6) (mTest (mCall allD [(mLc [7] (mSeq (mVar 2)) (gtN 7) bYes (mOp eqD (mOp ixD (mVar 6) (mOp subD (mCall absD [(mVar 7)]) (mK (.int 1)))) (mOp gtD (mVar 7) (mK (.int 0)))) resF)])) (mVar 6) resF
      [some (.int c), some (csT css), some (clT ns), some (.lst (bss.map tT)), some X, none, none, none] S1 = .ok (.lst (some'.map tT)) S1 := by
    have e2 : ∀ l : List Bool, boolsOf (l.map D.bl) = some l := fun l => by
      have := boolsOf_map (id : Bool → Bool) l
      simpa using this
    rw [mLcL_filter (ds := bss.map tT) (by simp only [e_fnRun, e_bnd, e_bndS, e_seq, e_if, e_ret, e_retN, e_set, e_expr, e_raise, e_nil, e_par, e_asg, e_sub, e_args0, e_args1, e_rt, e_some, e_var, e_k, e_call, e_un, e_op, e_test, e_boolD, e_bAnd, e_bOr, e_bNot, e_mAnd, e_mOr, e_mNot, e_mIf, e_chain, e_tup, e_lst, e_own, e_isN, e_notN, e_part, e_noPart, e_intD, e_sl, e_seqM, e_its, e_tupM, e_lstM, e_yes, e_el, e_gtN, e_gtNil, e_gtCons, e_gtTup, e_addI, e_subI, e_ltI, e_leI, e_gtI, e_geI, e_negI, e_lenT, e_lenL, e_tupT, e_tupL, e_lstT, e_slT, e_slL, e_ix0, e_ix1, e_ix2, e_il0, e_il1, e_il2, D.isNon, List.map_cons, List.map_nil, List.cons_append, List.nil_append, List.length_cons, List.length_nil, Nat.reduceAdd, Nat.reduceSub, List.replicate_succ, List.replicate_zero, List.set_cons_zero, List.set_cons_succ, List.getElem?_cons_zero, List.getElem?_cons_succ, Option.join_some, wipeE, if_true, if_false, reduceIte, Bool.false_eq_true, Bool.not_true, Bool.not_false]) (fun d => match d with | .tup xs => (match boolsOf xs with | some bs => if ns.all (lit bs) = true then some (tT bs) else none | none => none) | _ => none) fun d hd => by
      obtain ⟨bs, hb, rfl⟩ := List.mem_map.mp hd
      have hbl := ((hm bs).mp hb).1
      have x1 : mLc [7] (mSeq (mVar 2)) (gtN 7) bYes (mOp eqD (mOp ixD (mVar 6) (mOp subD (mCall absD [(mVar 7)]) (mK (.int 1)))) (mOp gtD (mVar 7) (mK (.int 0)))) resF [some (.int c), some (csT css), some (clT ns), some (.lst (bss.map tT)), some X, none, some (tT bs), none] S1 = .ok (.lst (ns.map fun k => .bl (lit bs k))) S1 :=
        mLcT_ints (by simp only [e_fnRun, e_bnd, e_bndS, e_seq, e_if, e_ret, e_retN, e_set, e_expr, e_raise, e_nil, e_par, e_asg, e_sub, e_args0, e_args1, e_rt, e_some, e_var, e_k, e_call, e_un, e_op, e_test, e_boolD, e_bAnd, e_bOr, e_bNot, e_mAnd, e_mOr, e_mNot, e_mIf, e_chain, e_tup, e_lst, e_own, e_isN, e_notN, e_part, e_noPart, e_intD, e_sl, e_seqM, e_its, e_tupM, e_lstM, e_yes, e_el, e_gtN, e_gtNil, e_gtCons, e_gtTup, e_addI, e_subI, e_ltI, e_leI, e_gtI, e_geI, e_negI, e_lenT, e_lenL, e_tupT, e_tupL, e_lstT, e_slT, e_slL, e_ix0, e_ix1, e_ix2, e_il0, e_il1, e_il2, D.isNon, List.map_cons, List.map_nil, List.cons_append, List.nil_append, List.length_cons, List.length_nil, Nat.reduceAdd, Nat.reduceSub, List.replicate_succ, List.replicate_zero, List.set_cons_zero, List.set_cons_succ, List.getElem?_cons_zero, List.getElem?_cons_succ, Option.join_some, wipeE, if_true, if_false, reduceIte, Bool.false_eq_true, Bool.not_true, Bool.not_false]) _ fun k hk => by
          have ha := abs_in (hn.1 k hk)
          simp only [e_fnRun, e_bnd, e_bndS, e_seq, e_if, e_ret, e_retN, e_set, e_expr, e_raise, e_nil, e_par, e_asg, e_sub, e_args0, e_args1, e_rt, e_some, e_var, e_k, e_call, e_un, e_op, e_test, e_boolD, e_bAnd, e_bOr, e_bNot, e_mAnd, e_mOr, e_mNot, e_mIf, e_chain, e_tup, e_lst, e_own, e_isN, e_notN, e_part, e_noPart, e_intD, e_sl, e_seqM, e_its, e_tupM, e_lstM, e_yes, e_el, e_gtN, e_gtNil, e_gtCons, e_gtTup, e_addI, e_subI, e_ltI, e_leI, e_gtI, e_geI, e_negI, e_lenT, e_lenL, e_tupT, e_tupL, e_lstT, e_slT, e_slL, e_ix0, e_ix1, e_ix2, e_il0, e_il1, e_il2, D.isNon, List.map_cons, List.map_nil, List.cons_append, List.nil_append, List.length_cons, List.length_nil, Nat.reduceAdd, Nat.reduceSub, List.replicate_succ, List.replicate_zero, List.set_cons_zero, List.set_cons_succ, List.getElem?_cons_zero, List.getElem?_cons_succ, Option.join_some, wipeE, if_true, if_false, reduceIte, Bool.false_eq_true, Bool.not_true, Bool.not_false, absD_ok, lit_ix ha.1 (show absZ k ≤ bs.length by omega), eq_bl]
          rfl
      simp only [e_fnRun, e_bnd, e_bndS, e_seq, e_if, e_ret, e_retN, e_set, e_expr, e_raise, e_nil, e_par, e_asg, e_sub, e_args0, e_args1, e_rt, e_some, e_var, e_k, e_call, e_un, e_op, e_test, e_boolD, e_bAnd, e_bOr, e_bNot, e_mAnd, e_mOr, e_mNot, e_mIf, e_chain, e_tup, e_lst, e_own, e_isN, e_notN, e_part, e_noPart, e_intD, e_sl, e_seqM, e_its, e_tupM, e_lstM, e_yes, e_el, e_gtN, e_gtNil, e_gtCons, e_gtTup, e_addI, e_subI, e_ltI, e_leI, e_gtI, e_geI, e_negI, e_lenT, e_lenL, e_tupT, e_tupL, e_lstT, e_slT, e_slL, e_ix0, e_ix1, e_ix2, e_il0, e_il1, e_il2, D.isNon, List.map_cons, List.map_nil, List.cons_append, List.nil_append, List.length_cons, List.length_nil, Nat.reduceAdd, Nat.reduceSub, List.replicate_succ, List.replicate_zero, List.set_cons_zero, List.set_cons_succ, List.getElem?_cons_zero, List.getElem?_cons_succ, Option.join_some, wipeE, if_true, if_false, reduceIte, Bool.false_eq_true, Bool.not_true, Bool.not_false, x1, all_map, e2]
      cases ns.all (lit bs) <;> simp only [e_fnRun, e_bnd, e_bndS, e_seq, e_if, e_ret, e_retN, e_set, e_expr, e_raise, e_nil, e_par, e_asg, e_sub, e_args0, e_args1, e_rt, e_some, e_var, e_k, e_call, e_un, e_op, e_test, e_boolD, e_bAnd, e_bOr, e_bNot, e_mAnd, e_mOr, e_mNot, e_mIf, e_chain, e_tup, e_lst, e_own, e_isN, e_notN, e_part, e_noPart, e_intD, e_sl, e_seqM, e_its, e_tupM, e_lstM, e_yes, e_el, e_gtN, e_gtNil, e_gtCons, e_gtTup, e_addI, e_subI, e_ltI, e_leI, e_gtI, e_geI, e_negI, e_lenT, e_lenL, e_tupT, e_tupL, e_lstT, e_slT, e_slL, e_ix0, e_ix1, e_ix2, e_il0, e_il1, e_il2, D.isNon, List.map_cons, List.map_nil, List.cons_append, List.nil_append, List.length_cons, List.length_nil, Nat.reduceAdd, Nat.reduceSub, List.replicate_succ, List.replicate_zero, List.set_cons_zero, List.set_cons_succ, List.getElem?_cons_zero, List.getElem?_cons_succ, Option.join_some, wipeE, if_true, if_false, reduceIte, Bool.false_eq_true, Bool.not_true, Bool.not_false]]
    rw [List.filterMap_map, ← filterMap_T (fun bs => ns.all (lit bs))]
    congr 3
    funext bs
    simp only [Function.comp, e2]
  have hs : ∀ bs ∈ some', hold bs css = true ∧ ns.all (lit bs) = true ∧ bs.length = c.toNat := fun bs hb => by
    obtain ⟨h1, h2⟩ := List.mem_filter.mp hb
    exact ⟨((hm bs).mp h1).2, h2, ((hm bs).mp h1).1⟩
  obtain ⟨q1, q2⟩ := some_eq some' S1
  rcases f with ⟨b, rfl⟩ | ⟨b, L, p, m, rfl⟩
  · have he : some' = [] := by
      cases q : some' with
      | nil => rfl
      | cons bs r =>
        have := hs bs (by rw [q]; exact List.mem_cons_self)
        exact absurd b (bad_none h hn.1 this.1 this.2.1)
    refine ⟨S1, ?_, o1⟩
    unfold m__law_facts_right
    simp only [e_fnRun, e_bnd, e_bndS, e_seq, e_if, e_ret, e_retN, e_set, e_expr, e_raise, e_nil, e_par, e_asg, e_sub, e_args0, e_args1, e_rt, e_some, e_var, e_k, e_call, e_un, e_op, e_test, e_boolD, e_bAnd, e_bOr, e_bNot, e_mAnd, e_mOr, e_mNot, e_mIf, e_chain, e_tup, e_lst, e_own, e_isN, e_notN, e_part, e_noPart, e_intD, e_sl, e_seqM, e_its, e_tupM, e_lstM, e_yes, e_el, e_gtN, e_gtNil, e_gtCons, e_gtTup, e_addI, e_subI, e_ltI, e_leI, e_gtI, e_geI, e_negI, e_lenT, e_lenL, e_tupT, e_tupL, e_lstT, e_slT, e_slL, e_ix0, e_ix1, e_ix2, e_il0, e_il1, e_il2, D.isNon, List.map_cons, List.map_nil, List.cons_append, List.nil_append, List.length_cons, List.length_nil, Nat.reduceAdd, Nat.reduceSub, List.replicate_succ, List.replicate_zero, List.set_cons_zero, List.set_cons_succ, List.getElem?_cons_zero, List.getElem?_cons_succ, Option.join_some, wipeE, if_true, if_false, reduceIte, Bool.false_eq_true, Bool.not_true, Bool.not_false, e1, a1, q1, he, decide_true]
    have := some_eq [] S1
    simp only [List.map_nil, decide_true] at this
    simp only [e_fnRun, e_bnd, e_bndS, e_seq, e_if, e_ret, e_retN, e_set, e_expr, e_raise, e_nil, e_par, e_asg, e_sub, e_args0, e_args1, e_rt, e_some, e_var, e_k, e_call, e_un, e_op, e_test, e_boolD, e_bAnd, e_bOr, e_bNot, e_mAnd, e_mOr, e_mNot, e_mIf, e_chain, e_tup, e_lst, e_own, e_isN, e_notN, e_part, e_noPart, e_intD, e_sl, e_seqM, e_its, e_tupM, e_lstM, e_yes, e_el, e_gtN, e_gtNil, e_gtCons, e_gtTup, e_addI, e_subI, e_ltI, e_leI, e_gtI, e_geI, e_negI, e_lenT, e_lenL, e_tupT, e_tupL, e_lstT, e_slT, e_slL, e_ix0, e_ix1, e_ix2, e_il0, e_il1, e_il2, D.isNon, List.map_cons, List.map_nil, List.cons_append, List.nil_append, List.length_cons, List.length_nil, Nat.reduceAdd, Nat.reduceSub, List.replicate_succ, List.replicate_zero, List.set_cons_zero, List.set_cons_succ, List.getElem?_cons_zero, List.getElem?_cons_succ, Option.join_some, wipeE, if_true, if_false, reduceIte, Bool.false_eq_true, Bool.not_true, Bool.not_false, this.1]
  · have a2 : mLc [6] (mSeq (mVar 5)) (gtN 6) bYes (mCall allD [(mLc [7] (mSeq (mVar 4)) (gtN 7) bYes (mOp eqD (mOp ixD (mVar 6) (mOp subD (mCall absD [(mVar 7)]) (mK (.int 1)))) (mOp gtD (mVar 7) (mK (.int 0)))) resF)]) resF
        [some (.int c), some (csT css), some (clT ns), some (.lst (bss.map tT)), some (clT L), some (.lst (some'.map tT)), none, none] S1 = .ok (.lst ((some'.map tT).map fun _ => .bl true)) S1 :=
      mLcL_map (by simp only [e_fnRun, e_bnd, e_bndS, e_seq, e_if, e_ret, e_retN, e_set, e_expr, e_raise, e_nil, e_par, e_asg, e_sub, e_args0, e_args1, e_rt, e_some, e_var, e_k, e_call, e_un, e_op, e_test, e_boolD, e_bAnd, e_bOr, e_bNot, e_mAnd, e_mOr, e_mNot, e_mIf, e_chain, e_tup, e_lst, e_own, e_isN, e_notN, e_part, e_noPart, e_intD, e_sl, e_seqM, e_its, e_tupM, e_lstM, e_yes, e_el, e_gtN, e_gtNil, e_gtCons, e_gtTup, e_addI, e_subI, e_ltI, e_leI, e_gtI, e_geI, e_negI, e_lenT, e_lenL, e_tupT, e_tupL, e_lstT, e_slT, e_slL, e_ix0, e_ix1, e_ix2, e_il0, e_il1, e_il2, D.isNon, List.map_cons, List.map_nil, List.cons_append, List.nil_append, List.length_cons, List.length_nil, Nat.reduceAdd, Nat.reduceSub, List.replicate_succ, List.replicate_zero, List.set_cons_zero, List.set_cons_succ, List.getElem?_cons_zero, List.getElem?_cons_succ, Option.join_some, wipeE, if_true, if_false, reduceIte, Bool.false_eq_true, Bool.not_true, Bool.not_false]) _ fun d hd => by
        obtain ⟨bs, hb, rfl⟩ := List.mem_map.mp hd
        obtain ⟨b1, b2, b3⟩ := hs bs hb
        have x1 : mLc [7] (mSeq (mVar 4)) (gtN 7) bYes (mOp eqD (mOp ixD (mVar 6) (mOp subD (mCall absD [(mVar 7)]) (mK (.int 1)))) (mOp gtD (mVar 7) (mK (.int 0)))) resF [some (.int c), some (csT css), some (clT ns), some (.lst (bss.map tT)), some (clT L), some (.lst (some'.map tT)), some (tT bs), none] S1 = .ok (.lst (L.map fun k => .bl (lit bs k))) S1 :=
          mLcT_ints (by simp only [e_fnRun, e_bnd, e_bndS, e_seq, e_if, e_ret, e_retN, e_set, e_expr, e_raise, e_nil, e_par, e_asg, e_sub, e_args0, e_args1, e_rt, e_some, e_var, e_k, e_call, e_un, e_op, e_test, e_boolD, e_bAnd, e_bOr, e_bNot, e_mAnd, e_mOr, e_mNot, e_mIf, e_chain, e_tup, e_lst, e_own, e_isN, e_notN, e_part, e_noPart, e_intD, e_sl, e_seqM, e_its, e_tupM, e_lstM, e_yes, e_el, e_gtN, e_gtNil, e_gtCons, e_gtTup, e_addI, e_subI, e_ltI, e_leI, e_gtI, e_geI, e_negI, e_lenT, e_lenL, e_tupT, e_tupL, e_lstT, e_slT, e_slL, e_ix0, e_ix1, e_ix2, e_il0, e_il1, e_il2, D.isNon, List.map_cons, List.map_nil, List.cons_append, List.nil_append, List.length_cons, List.length_nil, Nat.reduceAdd, Nat.reduceSub, List.replicate_succ, List.replicate_zero, List.set_cons_zero, List.set_cons_succ, List.getElem?_cons_zero, List.getElem?_cons_succ, Option.join_some, wipeE, if_true, if_false, reduceIte, Bool.false_eq_true, Bool.not_true, Bool.not_false]) _ fun k hk => by
            have ha := abs_in (fc_in h hn.1 ((m k).mp hk))
            simp only [e_fnRun, e_bnd, e_bndS, e_seq, e_if, e_ret, e_retN, e_set, e_expr, e_raise, e_nil, e_par, e_asg, e_sub, e_args0, e_args1, e_rt, e_some, e_var, e_k, e_call, e_un, e_op, e_test, e_boolD, e_bAnd, e_bOr, e_bNot, e_mAnd, e_mOr, e_mNot, e_mIf, e_chain, e_tup, e_lst, e_own, e_isN, e_notN, e_part, e_noPart, e_intD, e_sl, e_seqM, e_its, e_tupM, e_lstM, e_yes, e_el, e_gtN, e_gtNil, e_gtCons, e_gtTup, e_addI, e_subI, e_ltI, e_leI, e_gtI, e_geI, e_negI, e_lenT, e_lenL, e_tupT, e_tupL, e_lstT, e_slT, e_slL, e_ix0, e_ix1, e_ix2, e_il0, e_il1, e_il2, D.isNon, List.map_cons, List.map_nil, List.cons_append, List.nil_append, List.length_cons, List.length_nil, Nat.reduceAdd, Nat.reduceSub, List.replicate_succ, List.replicate_zero, List.set_cons_zero, List.set_cons_succ, List.getElem?_cons_zero, List.getElem?_cons_succ, Option.join_some, wipeE, if_true, if_false, reduceIte, Bool.false_eq_true, Bool.not_true, Bool.not_false, absD_ok, lit_ix ha.1 (show absZ k ≤ bs.length by omega), eq_bl]
            rfl
        have x2 : L.all (lit bs) = true := List.all_eq_true.mpr fun k hk => fc_sound h hn.1 b1 b2 ((m k).mp hk)
        simp only [e_fnRun, e_bnd, e_bndS, e_seq, e_if, e_ret, e_retN, e_set, e_expr, e_raise, e_nil, e_par, e_asg, e_sub, e_args0, e_args1, e_rt, e_some, e_var, e_k, e_call, e_un, e_op, e_test, e_boolD, e_bAnd, e_bOr, e_bNot, e_mAnd, e_mOr, e_mNot, e_mIf, e_chain, e_tup, e_lst, e_own, e_isN, e_notN, e_part, e_noPart, e_intD, e_sl, e_seqM, e_its, e_tupM, e_lstM, e_yes, e_el, e_gtN, e_gtNil, e_gtCons, e_gtTup, e_addI, e_subI, e_ltI, e_leI, e_gtI, e_geI, e_negI, e_lenT, e_lenL, e_tupT, e_tupL, e_lstT, e_slT, e_slL, e_ix0, e_ix1, e_ix2, e_il0, e_il1, e_il2, D.isNon, List.map_cons, List.map_nil, List.cons_append, List.nil_append, List.length_cons, List.length_nil, Nat.reduceAdd, Nat.reduceSub, List.replicate_succ, List.replicate_zero, List.set_cons_zero, List.set_cons_succ, List.getElem?_cons_zero, List.getElem?_cons_succ, Option.join_some, wipeE, if_true, if_false, reduceIte, Bool.false_eq_true, Bool.not_true, Bool.not_false, x1, all_map, x2]
    have a3 : allD [.lst ((some'.map tT).map fun _ => .bl true)] S1 = .ok (.bl true) S1 := by
      rw [all_map (fun _ : D => true)]
      congr 2
      rw [List.all_eq_true]
      exact fun _ _ => rfl
    by_cases he : some' = []
    · obtain ⟨_, S2, e3, o2⟩ := due_ok (S := S1) h hn hl
      have hsb : setB css ns = false := by
        cases q : setB css ns with
        | false => rfl
        | true =>
          obtain ⟨bs, b1, b2, b3⟩ := settled_model h hn.1 q
          have : bs ∈ some' := List.mem_filter.mpr ⟨(hm bs).mpr ⟨b1, b2⟩, b3⟩
          rw [he] at this
          cases this
      rw [hsb] at e3
      have lens : S.length ≤ S1.length := by
        by_cases hz : S.length ≤ S1.length
        · exact hz
        · exfalso
          have := o1 S1.length (by omega)
          rw [List.getElem?_eq_none (Nat.le_refl _), List.getElem?_eq_getElem (by omega)] at this
          cases this
      refine ⟨S2, ?_, fun i hi => by rw [o2 i (by omega)]; exact o1 i hi⟩
      unfold m__law_facts_right
      rw [he] at q2
      rw [he] at a1 a2 a3
      simp only [decide_true, Bool.not_true, List.map_nil] at q2 a1 a2 a3
      simp only [e_fnRun, e_bnd, e_bndS, e_seq, e_if, e_ret, e_retN, e_set, e_expr, e_raise, e_nil, e_par, e_asg, e_sub, e_args0, e_args1, e_rt, e_some, e_var, e_k, e_call, e_un, e_op, e_test, e_boolD, e_bAnd, e_bOr, e_bNot, e_mAnd, e_mOr, e_mNot, e_mIf, e_chain, e_tup, e_lst, e_own, e_isN, e_notN, e_part, e_noPart, e_intD, e_sl, e_seqM, e_its, e_tupM, e_lstM, e_yes, e_el, e_gtN, e_gtNil, e_gtCons, e_gtTup, e_addI, e_subI, e_ltI, e_leI, e_gtI, e_geI, e_negI, e_lenT, e_lenL, e_tupT, e_tupL, e_lstT, e_slT, e_slL, e_ix0, e_ix1, e_ix2, e_il0, e_il1, e_il2, D.isNon, List.map_cons, List.map_nil, List.cons_append, List.nil_append, List.length_cons, List.length_nil, Nat.reduceAdd, Nat.reduceSub, List.replicate_succ, List.replicate_zero, List.set_cons_zero, List.set_cons_succ, List.getElem?_cons_zero, List.getElem?_cons_succ, Option.join_some, wipeE, if_true, if_false, reduceIte, Bool.false_eq_true, Bool.not_true, Bool.not_false, e1, a1, a2, a3, q2, e3, e_mOr]
    · refine ⟨S1, ?_, o1⟩
      have hf : decide (some' = []) = false := decide_eq_false he
      rw [hf, Bool.not_false] at q2
      unfold m__law_facts_right
      simp only [e_fnRun, e_bnd, e_bndS, e_seq, e_if, e_ret, e_retN, e_set, e_expr, e_raise, e_nil, e_par, e_asg, e_sub, e_args0, e_args1, e_rt, e_some, e_var, e_k, e_call, e_un, e_op, e_test, e_boolD, e_bAnd, e_bOr, e_bNot, e_mAnd, e_mOr, e_mNot, e_mIf, e_chain, e_tup, e_lst, e_own, e_isN, e_notN, e_part, e_noPart, e_intD, e_sl, e_seqM, e_its, e_tupM, e_lstM, e_yes, e_el, e_gtN, e_gtNil, e_gtCons, e_gtTup, e_addI, e_subI, e_ltI, e_leI, e_gtI, e_geI, e_negI, e_lenT, e_lenL, e_tupT, e_tupL, e_lstT, e_slT, e_slL, e_ix0, e_ix1, e_ix2, e_il0, e_il1, e_il2, D.isNon, List.map_cons, List.map_nil, List.cons_append, List.nil_append, List.length_cons, List.length_nil, Nat.reduceAdd, Nat.reduceSub, List.replicate_succ, List.replicate_zero, List.set_cons_zero, List.set_cons_succ, List.getElem?_cons_zero, List.getElem?_cons_succ, Option.join_some, wipeE, if_true, if_false, reduceIte, Bool.false_eq_true, Bool.not_true, Bool.not_false, e1, a1, a2, a3, q2, e_mOr]
end K14

set_option Elab.async false
set_option maxRecDepth 100000
set_option linter.all false
set_option maxHeartbeats 4000000
namespace K14
open PySem hiding ret
open Mir
open Classical
noncomputable def whB : MS := (sSeq (sSet 14 (mIf (mTest (mVar 12)) (mCall m__law_due [(mVar 13), (mVar 4), (mVar 5), (mVar 11)]) (mK (.str "literals"))))
  (sIf (bNot (mTest (mCall (m__law_same 8) [(mCall m__law_ask [(mVar 13), (mLst [(mVar 4), (mVar 5), (mVar 11)])]), (mVar 14)]))) (sRet (mK (.bl false))) sNil))
noncomputable def vaB : MS := (sSeq (sSet 12 (mCall m__law_is_clause [(mVar 4), (mVar 11)]))
  (sFor (mSeq (mLst [(mK (.int 0)), (mK (.int 1))])) (gtN 13)
  whB))
noncomputable def agB : MS := (sSeq (sSet 10 (mCall m__law_some_clause [(mVar 2), (mVar 4), (mK (.int 3))]))
  (sSeq (sIf (bNot (mTest (mCall m__law_facts_right [(mVar 4), (mVar 5), (mVar 10), (mVar 6)]))) (sRet (mK (.bl false))) sNil)
  (sFor (mSeq (mLst [(mVar 10), (mCall (m__law_bent 8) [(mVar 2), (mVar 10)]), (mTup []), (mOp addD (mVar 10) (mTup [(mOp addD (mVar 4) (mK (.int 1)))])), (mCall listD [(mVar 10)]), (mTup [(mK (.int 1)), (mUn negD (mK (.int 1)))]), (mK .non)])) (gtN 11)
  vaB)))
noncomputable def fiB : MS := (sSeq (sSet 15 (mCall m__law_no_clauses [(mVar 2), (mVar 4)]))
  (sSeq (sIf (mTest (mOp neD (mLc [13] (mIts range1M [(mK (.int 3))]) (gtN 13) bYes (mCall m__law_ask [(mVar 13), (mLst [(mVar 4), (mVar 15), (mK .non)])]) resF) (mRep [(mK (.str "clauses"))] (mK (.int 3))))) (sRet (mK (.bl false))) sNil)
  (sIf (mTest (mOp neD (mLc [13] (mIts range1M [(mK (.int 3))]) (gtN 13) bYes (mCall m__law_ask [(mVar 13), (mLst [(mCall m__law_pick [(mVar 2), (mLst [(mUn negD (mK (.int 1))), (mK .non), (mK (.bl true)), (mK (.str "3"))])]), (mVar 15), (mK .non)])]) resF) (mRep [(mK (.str "number"))] (mK (.int 3))))) (sRet (mK (.bl false))) sNil)))
noncomputable def tuB : MS := (sSeq (sSet 4 (mOp addD (mK (.int 1)) (mCall m__law_draw [(mVar 2), (mK (.int 8))])))
  (sSeq (sSet 5 (mCall m__law_clauses [(mVar 2), (mVar 4), (mK (.int 12))]))
  (sSeq (sSet 6 (mCall m__law_models [(mVar 4), (mVar 5)]))
  (sSeq (sSet 7 (mOp addD (mLc [16] (mIts range3M [(mVar 4), (mK (.int 0)), (mUn negD (mK (.int 1)))]) (gtN 16) bYes (mUn negD (mVar 16)) resF) (mListRg false (mRg2 (mK (.int 1)) (mOp addD (mVar 4) (mK (.int 1)))))))
  (sSeq (sSet 8 (mCall tupleD [(mLc [16] (mSeq (mVar 7)) (gtN 16) (mTest (mIsN (mCall m__law_forced [(mVar 5), (mTup [(mUn negD (mVar 16))])]))) (mVar 16) resF)]))
  (sSeq (sIf (bNot (mTest (mCall (m__law_same 8) [(mCall m__law_ask [(mK (.int 2)), (mLst [(mVar 4), (mVar 5)])]), (mLst [(mVar 8)])]))) (sRet (mK (.bl false))) sNil)
  (sSeq (sIf (bNot (mTest (mCall allD [(mLc [17] (mSeq (mVar 6)) (gtN 17) bYes (mCall allD [(mLc [16] (mSeq (mVar 8)) (gtN 16) bYes (mOp eqD (mOp ixD (mVar 17) (mOp subD (mCall absD [(mVar 16)]) (mK (.int 1)))) (mOp gtD (mVar 16) (mK (.int 0)))) resF)]) resF)]))) (sRet (mK (.bl false))) sNil)
  (sSeq (sFor (mIts range1M [(mK (.int 6))]) (gtN 9)
  agB)
  fiB))))))))
noncomputable def lawB : MS := (sSeq (sSet 2 (mCall m__law_deck [(mVar 1)]))
  (sFor (mIts range1M [(mK (.int 2))]) (gtN 3)
  tuB))
theorem law_body_eq : law_body = lawB := rfl
theorem dk_keep {n : Nat} {S S' : Store} (h : Dk S n) (o : ∀ i, i < S.length → S'[i]? = S[i]?) : Dk S' n := by
  obtain ⟨a, b, e⟩ := h
  have hn : n < S.length := (List.getElem?_eq_some_iff.mp e).1
  exact ⟨a, b, by rw [o n hn]; exact e⟩
theorem same_non (f : Nat) (S : Store) : m__law_same (f + 1) [.non, .non] S = .ok (.bl true) S := by
  have t : Ty .non = true := rfl
  unfold m__law_same
  simp only [e_fnRun, e_bnd, e_bndS, e_seq, e_if, e_ret, e_retN, e_set, e_expr, e_raise, e_nil, e_par, e_asg, e_sub, e_args0, e_args1, e_rt, e_some, e_var, e_k, e_call, e_un, e_op, e_test, e_boolD, e_bAnd, e_bOr, e_bNot, e_mAnd, e_mOr, e_mNot, e_mIf, e_chain, e_tup, e_lst, e_own, e_isN, e_notN, e_part, e_noPart, e_intD, e_sl, e_seqM, e_its, e_tupM, e_lstM, e_yes, e_el, e_gtN, e_gtNil, e_gtCons, e_gtTup, e_addI, e_subI, e_ltI, e_leI, e_gtI, e_geI, e_negI, e_lenT, e_lenL, e_tupT, e_tupL, e_lstT, e_slT, e_slL, e_ix0, e_ix1, e_ix2, e_il0, e_il1, e_il2, D.isNon, List.map_cons, List.map_nil, List.cons_append, List.nil_append, List.length_cons, List.length_nil, Nat.reduceAdd, Nat.reduceSub, List.replicate_succ, List.replicate_zero, List.set_cons_zero, List.set_cons_succ, List.getElem?_cons_zero, List.getElem?_cons_succ, Option.join_some, wipeE, if_true, if_false, reduceIte, Bool.false_eq_true, Bool.not_true, Bool.not_false, ty_seq t, isTup, isLst, Bool.or_self]
theorem same_fd {c : Int} {css : List (List Int)} {ns : List Int} {X : D} (h : Cs c css) (hl : ns.length ≤ 50) (f : Fd css ns X) (S : Store) : m__law_same 8 [.lst [X], .lst [X]] S = .ok (.bl true) S := by
  refine same_lst (by simp) fun x hx => ?_
  simp at hx
  subst hx
  rcases f with ⟨_, rfl⟩ | ⟨_, L, p, m, rfl⟩
  · exact same_non 6 S
  · have hz : L.length ≤ 900 := Nat.le_trans (nodup_len L (ns ++ css.flatten) (nodup_of_lt p) fun k hk => by
      cases (m k).mp hk with
      | base h1 => exact List.mem_append_left _ h1
      | step h1 h2 _ => exact List.mem_append_right _ (List.mem_flatten.mpr ⟨_, h1, h2⟩)) (h.U hl)
    refine same_tup (by rw [List.length_map]; omega) fun y hy => ?_
    obtain ⟨k, _, rfl⟩ := List.mem_map.mp hy
    exact same_int k 5 S
section
variable {x0 x1 x2 x3 x6 x7 x8 x9 x10 x14 x15 x16 x17 : Option D} {S : Store} {c : Int} {css : List (List Int)} {n : Nat}
theorem wh_ok {v : D} {w : Int} (h : Cs c css) (hv : Pt v) (hw : w = 0 ∨ w = 1) (hk : Dk S n) : ∃ y14 S', whB [x0, x1, x2, x3, some (.int c), some (csT css), x6, x7, x8, x9, x10, some v, some (.bl (clD (Cl c) v)), some (.int w), x14, x15, x16, x17] S
    = .nx [x0, x1, x2, x3, some (.int c), some (csT css), x6, x7, x8, x9, x10, some v, some (.bl (clD (Cl c) v)), some (.int w), y14, x15, x16, x17] S' ∧ Dk S' n := by
  cases hc : clD (Cl c) v with
  | false =>
    have e1 := h.check S
    have e2 := check_literals_ok (c := c) hv S
    rw [hc] at e2
    have sl : m__law_same 8 [.str "literals", .str "literals"] S = .ok (.bl true) S := same_str _ (by decide +kernel) 7 S
    refine ⟨some (.str "literals"), S, ?_, hk⟩
    rcases hw with rfl | rfl
    · have ek : m__law_ask [.int 0, .lst [.int c, csT css, v]] S = .ok (.str "literals") S := by
        have : m_forced [.int c, csT css, v] S = .err 2 S := by
          unfold m_forced
          simp only [e_fnRun, e_bnd, e_bndS, e_seq, e_if, e_ret, e_retN, e_set, e_expr, e_raise, e_nil, e_par, e_asg, e_sub, e_args0, e_args1, e_rt, e_some, e_var, e_k, e_call, e_un, e_op, e_test, e_boolD, e_bAnd, e_bOr, e_bNot, e_mAnd, e_mOr, e_mNot, e_mIf, e_chain, e_tup, e_lst, e_own, e_isN, e_notN, e_part, e_noPart, e_intD, e_sl, e_seqM, e_its, e_tupM, e_lstM, e_yes, e_el, e_gtN, e_gtNil, e_gtCons, e_gtTup, e_addI, e_subI, e_ltI, e_leI, e_gtI, e_geI, e_negI, e_lenT, e_lenL, e_tupT, e_tupL, e_lstT, e_slT, e_slL, e_ix0, e_ix1, e_ix2, e_il0, e_il1, e_il2, D.isNon, List.map_cons, List.map_nil, List.cons_append, List.nil_append, List.length_cons, List.length_nil, Nat.reduceAdd, Nat.reduceSub, List.replicate_succ, List.replicate_zero, List.set_cons_zero, List.set_cons_succ, List.getElem?_cons_zero, List.getElem?_cons_succ, Option.join_some, wipeE, if_true, if_false, reduceIte, Bool.false_eq_true, Bool.not_true, Bool.not_false, e1, e2]
        rw [ask0, this]
        rfl
      unfold whB
      simp only [e_fnRun, e_bnd, e_bndS, e_seq, e_if, e_ret, e_retN, e_set, e_expr, e_raise, e_nil, e_par, e_asg, e_sub, e_args0, e_args1, e_rt, e_some, e_var, e_k, e_call, e_un, e_op, e_test, e_boolD, e_bAnd, e_bOr, e_bNot, e_mAnd, e_mOr, e_mNot, e_mIf, e_chain, e_tup, e_lst, e_own, e_isN, e_notN, e_part, e_noPart, e_intD, e_sl, e_seqM, e_its, e_tupM, e_lstM, e_yes, e_el, e_gtN, e_gtNil, e_gtCons, e_gtTup, e_addI, e_subI, e_ltI, e_leI, e_gtI, e_geI, e_negI, e_lenT, e_lenL, e_tupT, e_tupL, e_lstT, e_slT, e_slL, e_ix0, e_ix1, e_ix2, e_il0, e_il1, e_il2, D.isNon, List.map_cons, List.map_nil, List.cons_append, List.nil_append, List.length_cons, List.length_nil, Nat.reduceAdd, Nat.reduceSub, List.replicate_succ, List.replicate_zero, List.set_cons_zero, List.set_cons_succ, List.getElem?_cons_zero, List.getElem?_cons_succ, Option.join_some, wipeE, if_true, if_false, reduceIte, Bool.false_eq_true, Bool.not_true, Bool.not_false, ek, sl]
    · have ek : m__law_ask [.int 1, .lst [.int c, csT css, v]] S = .ok (.str "literals") S := by
        have : m_is_settled [.int c, csT css, v] S = .err 2 S := by
          unfold m_is_settled
          simp only [e_fnRun, e_bnd, e_bndS, e_seq, e_if, e_ret, e_retN, e_set, e_expr, e_raise, e_nil, e_par, e_asg, e_sub, e_args0, e_args1, e_rt, e_some, e_var, e_k, e_call, e_un, e_op, e_test, e_boolD, e_bAnd, e_bOr, e_bNot, e_mAnd, e_mOr, e_mNot, e_mIf, e_chain, e_tup, e_lst, e_own, e_isN, e_notN, e_part, e_noPart, e_intD, e_sl, e_seqM, e_its, e_tupM, e_lstM, e_yes, e_el, e_gtN, e_gtNil, e_gtCons, e_gtTup, e_addI, e_subI, e_ltI, e_leI, e_gtI, e_geI, e_negI, e_lenT, e_lenL, e_tupT, e_tupL, e_lstT, e_slT, e_slL, e_ix0, e_ix1, e_ix2, e_il0, e_il1, e_il2, D.isNon, List.map_cons, List.map_nil, List.cons_append, List.nil_append, List.length_cons, List.length_nil, Nat.reduceAdd, Nat.reduceSub, List.replicate_succ, List.replicate_zero, List.set_cons_zero, List.set_cons_succ, List.getElem?_cons_zero, List.getElem?_cons_succ, Option.join_some, wipeE, if_true, if_false, reduceIte, Bool.false_eq_true, Bool.not_true, Bool.not_false, e1, e2]
        rw [ask1, this]
        rfl
      unfold whB
      simp only [e_fnRun, e_bnd, e_bndS, e_seq, e_if, e_ret, e_retN, e_set, e_expr, e_raise, e_nil, e_par, e_asg, e_sub, e_args0, e_args1, e_rt, e_some, e_var, e_k, e_call, e_un, e_op, e_test, e_boolD, e_bAnd, e_bOr, e_bNot, e_mAnd, e_mOr, e_mNot, e_mIf, e_chain, e_tup, e_lst, e_own, e_isN, e_notN, e_part, e_noPart, e_intD, e_sl, e_seqM, e_its, e_tupM, e_lstM, e_yes, e_el, e_gtN, e_gtNil, e_gtCons, e_gtTup, e_addI, e_subI, e_ltI, e_leI, e_gtI, e_geI, e_negI, e_lenT, e_lenL, e_tupT, e_tupL, e_lstT, e_slT, e_slL, e_ix0, e_ix1, e_ix2, e_il0, e_il1, e_il2, D.isNon, List.map_cons, List.map_nil, List.cons_append, List.nil_append, List.length_cons, List.length_nil, Nat.reduceAdd, Nat.reduceSub, List.replicate_succ, List.replicate_zero, List.set_cons_zero, List.set_cons_succ, List.getElem?_cons_zero, List.getElem?_cons_succ, Option.join_some, wipeE, if_true, if_false, reduceIte, Bool.false_eq_true, Bool.not_true, Bool.not_false, ek, sl]
  | true =>
    obtain ⟨ns, rfl, hn⟩ := clD_tup hc
    have hl : ns.length ≤ 50 := by have := (hv.2 _ rfl).1; rw [List.length_map] at this; exact this
    obtain ⟨⟨X, S1, d1, f1, o1⟩, S2, d2, o2⟩ := due_ok (S := S) h hn hl
    rcases hw with rfl | rfl
    · obtain ⟨Y, S3, e3, f3, o3⟩ := forced_ok (S := S1) h hn hl
      have : Y = X := Fd.eq f3 f1
      subst this
      have ek : m__law_ask [.int 0, .lst [.int c, csT css, clT ns]] S1 = .ok (.lst [Y]) S3 := by rw [ask0, e3]; rfl
      refine ⟨some (.lst [Y]), S3, ?_, dk_keep (dk_keep hk o1) o3⟩
      unfold whB
      simp only [e_fnRun, e_bnd, e_bndS, e_seq, e_if, e_ret, e_retN, e_set, e_expr, e_raise, e_nil, e_par, e_asg, e_sub, e_args0, e_args1, e_rt, e_some, e_var, e_k, e_call, e_un, e_op, e_test, e_boolD, e_bAnd, e_bOr, e_bNot, e_mAnd, e_mOr, e_mNot, e_mIf, e_chain, e_tup, e_lst, e_own, e_isN, e_notN, e_part, e_noPart, e_intD, e_sl, e_seqM, e_its, e_tupM, e_lstM, e_yes, e_el, e_gtN, e_gtNil, e_gtCons, e_gtTup, e_addI, e_subI, e_ltI, e_leI, e_gtI, e_geI, e_negI, e_lenT, e_lenL, e_tupT, e_tupL, e_lstT, e_slT, e_slL, e_ix0, e_ix1, e_ix2, e_il0, e_il1, e_il2, D.isNon, List.map_cons, List.map_nil, List.cons_append, List.nil_append, List.length_cons, List.length_nil, Nat.reduceAdd, Nat.reduceSub, List.replicate_succ, List.replicate_zero, List.set_cons_zero, List.set_cons_succ, List.getElem?_cons_zero, List.getElem?_cons_succ, Option.join_some, wipeE, if_true, if_false, reduceIte, Bool.false_eq_true, Bool.not_true, Bool.not_false, d1, ek, same_fd h hl f3]
    · obtain ⟨S3, e3, o3⟩ := settled_ok (S := S2) h hn hl
      have ek : m__law_ask [.int 1, .lst [.int c, csT css, clT ns]] S2 = .ok (.lst [.bl (setB css ns)]) S3 := by rw [ask1, e3]; rfl
      refine ⟨some (.lst [.bl (setB css ns)]), S3, ?_, dk_keep (dk_keep hk o2) o3⟩
      unfold whB
      simp only [e_fnRun, e_bnd, e_bndS, e_seq, e_if, e_ret, e_retN, e_set, e_expr, e_raise, e_nil, e_par, e_asg, e_sub, e_args0, e_args1, e_rt, e_some, e_var, e_k, e_call, e_un, e_op, e_test, e_boolD, e_bAnd, e_bOr, e_bNot, e_mAnd, e_mOr, e_mNot, e_mIf, e_chain, e_tup, e_lst, e_own, e_isN, e_notN, e_part, e_noPart, e_intD, e_sl, e_seqM, e_its, e_tupM, e_lstM, e_yes, e_el, e_gtN, e_gtNil, e_gtCons, e_gtTup, e_addI, e_subI, e_ltI, e_leI, e_gtI, e_geI, e_negI, e_lenT, e_lenL, e_tupT, e_tupL, e_lstT, e_slT, e_slL, e_ix0, e_ix1, e_ix2, e_il0, e_il1, e_il2, D.isNon, List.map_cons, List.map_nil, List.cons_append, List.nil_append, List.length_cons, List.length_nil, Nat.reduceAdd, Nat.reduceSub, List.replicate_succ, List.replicate_zero, List.set_cons_zero, List.set_cons_succ, List.getElem?_cons_zero, List.getElem?_cons_succ, Option.join_some, wipeE, if_true, if_false, reduceIte, Bool.false_eq_true, Bool.not_true, Bool.not_false, d2, ek, same_bool]
theorem va_ok {v : D} {x12 x13 : Option D} (h : Cs c css) (hv : Pt v) (hk : Dk S n) : ∃ y12 y13 y14 S', vaB [x0, x1, x2, x3, some (.int c), some (csT css), x6, x7, x8, x9, x10, some v, x12, x13, x14, x15, x16, x17] S
    = .nx [x0, x1, x2, x3, some (.int c), some (csT css), x6, x7, x8, x9, x10, some v, y12, y13, y14, x15, x16, x17] S' ∧ Dk S' n := by
  obtain ⟨y14, S1, e1, h1⟩ := wh_ok (x0 := x0) (x1 := x1) (x2 := x2) (x3 := x3) (x6 := x6) (x7 := x7) (x8 := x8) (x9 := x9) (x10 := x10) (x14 := x14) (x15 := x15) (x16 := x16) (x17 := x17) (w := 0) h hv (.inl rfl) hk
  obtain ⟨z14, S2, e2, h2⟩ := wh_ok (x0 := x0) (x1 := x1) (x2 := x2) (x3 := x3) (x6 := x6) (x7 := x7) (x8 := x8) (x9 := x9) (x10 := x10) (x14 := y14) (x15 := x15) (x16 := x16) (x17 := x17) (w := 1) h hv (.inr rfl) h1
  refine ⟨some (.bl (clD (Cl c) v)), some (.int 1), z14, S2, ?_, h2⟩
  unfold vaB
  simp only [e_fnRun, e_bnd, e_bndS, e_seq, e_if, e_ret, e_retN, e_set, e_expr, e_raise, e_nil, e_par, e_asg, e_sub, e_args0, e_args1, e_rt, e_some, e_var, e_k, e_call, e_un, e_op, e_test, e_boolD, e_bAnd, e_bOr, e_bNot, e_mAnd, e_mOr, e_mNot, e_mIf, e_chain, e_tup, e_lst, e_own, e_isN, e_notN, e_part, e_noPart, e_intD, e_sl, e_seqM, e_its, e_tupM, e_lstM, e_yes, e_el, e_gtN, e_gtNil, e_gtCons, e_gtTup, e_addI, e_subI, e_ltI, e_leI, e_gtI, e_geI, e_negI, e_lenT, e_lenL, e_tupT, e_tupL, e_lstT, e_slT, e_slL, e_ix0, e_ix1, e_ix2, e_il0, e_il1, e_il2, D.isNon, List.map_cons, List.map_nil, List.cons_append, List.nil_append, List.length_cons, List.length_nil, Nat.reduceAdd, Nat.reduceSub, List.replicate_succ, List.replicate_zero, List.set_cons_zero, List.set_cons_succ, List.getElem?_cons_zero, List.getElem?_cons_succ, Option.join_some, wipeE, if_true, if_false, reduceIte, Bool.false_eq_true, Bool.not_true, Bool.not_false, law_is_clause_ok hv]
  rw [e_forL (ds := [.int 0, .int 1]) (S' := S) (by simp only [e_fnRun, e_bnd, e_bndS, e_seq, e_if, e_ret, e_retN, e_set, e_expr, e_raise, e_nil, e_par, e_asg, e_sub, e_args0, e_args1, e_rt, e_some, e_var, e_k, e_call, e_un, e_op, e_test, e_boolD, e_bAnd, e_bOr, e_bNot, e_mAnd, e_mOr, e_mNot, e_mIf, e_chain, e_tup, e_lst, e_own, e_isN, e_notN, e_part, e_noPart, e_intD, e_sl, e_seqM, e_its, e_tupM, e_lstM, e_yes, e_el, e_gtN, e_gtNil, e_gtCons, e_gtTup, e_addI, e_subI, e_ltI, e_leI, e_gtI, e_geI, e_negI, e_lenT, e_lenL, e_tupT, e_tupL, e_lstT, e_slT, e_slL, e_ix0, e_ix1, e_ix2, e_il0, e_il1, e_il2, D.isNon, List.map_cons, List.map_nil, List.cons_append, List.nil_append, List.length_cons, List.length_nil, Nat.reduceAdd, Nat.reduceSub, List.replicate_succ, List.replicate_zero, List.set_cons_zero, List.set_cons_succ, List.getElem?_cons_zero, List.getElem?_cons_succ, Option.join_some, wipeE, if_true, if_false, reduceIte, Bool.false_eq_true, Bool.not_true, Bool.not_false])]
  rw [forT_cons rfl e1, forT_cons rfl e2, forT_nil]
end
end K14

set_option Elab.async false
set_option maxRecDepth 100000
set_option linter.all false
set_option maxHeartbeats 4000000
namespace K14
open PySem hiding ret
open Mir
open Classical
theorem bent_pt {S : Store} {n f : Nat} {ns : List Int} (h : Dk S n) (hz : ns.length ≤ 5) : ∃ r S', m__law_bent (f + 2) [.ref n, clT ns] S = .ok r S' ∧ Ev n S S' ∧ Pt r := by
  obtain ⟨r, S', e, v, b⟩ := bent_tup (fuel := f + 1) (xs := ns.map .int) (pyDs_ints ns) (layAll_ints ns) h (by rw [List.length_map]; omega) (fun y => Ty y = true) (ty_intsD ns) rfl rfl rfl (fun x hx S hS => by
    obtain ⟨k, _, rfl⟩ := List.mem_map.mp hx
    obtain ⟨r, S', e, v, b⟩ := bent_int (fuel := f) (i := k) hS (fun y => Ty y = true) rfl rfl rfl
    exact ⟨r, S', e, v, b.1⟩)
  exact ⟨r, S', e, v, b.1, fun xs ex => ⟨by have := (b.2 xs ex).1; rw [List.length_map] at this; omega, (b.2 xs ex).2⟩⟩
section
variable {x0 x1 x2 x3 x7 x8 x9 x10 x11 x12 x13 x14 x15 x16 x17 : Option D} {S : Store} {c : Int} {css : List (List Int)} {n : Nat} {bss : List (List Bool)}
theorem ag_ok (h : Cs c css) (hm : ∀ bs, bs ∈ bss ↔ bs.length = c.toNat ∧ hold bs css = true) (hk : Dk S n) : ∃ y10 y11 y12 y13 y14 S', agB [x0, x1, some (.ref n), x3, some (.int c), some (csT css), some (.lst (bss.map tT)), x7, x8, x9, x10, x11, x12, x13, x14, x15, x16, x17] S
    = .nx [x0, x1, some (.ref n), x3, some (.int c), some (csT css), some (.lst (bss.map tT)), x7, x8, x9, y10, y11, y12, y13, y14, x15, x16, x17] S' ∧ Dk S' n := by
  have hs := sl_small
  obtain ⟨ns, S1, e1, h1, k1, l1⟩ := some_clause_ok (c := c) hk h.c0 h.c1 (mo := 3) (by decide) (by decide)
  have hl : ns.length ≤ 3 := by omega
  obtain ⟨S2, e2, o2⟩ := facts_ok (S := S1) h k1 (by omega) hm
  have h2 := dk_keep h1 o2
  obtain ⟨r, S3, e3, v3, pr⟩ := bent_pt (f := 6) (ns := ns) h2 (by omega)
  have ad : ∀ S : Store, addD (clT ns) (.tup [.int (c + 1)]) S = .ok (clT (ns ++ [c + 1])) S := fun S => by
    rw [e_addT (by rw [List.length_map]; simp only [List.length_cons, List.length_nil]; omega)]
    simp only [clT, List.map_append, List.map_cons, List.map_nil]
  have L : mLst [(mVar 10), (mCall (m__law_bent 8) [(mVar 2), (mVar 10)]), (mTup []), (mOp addD (mVar 10) (mTup [(mOp addD (mVar 4) (mK (.int 1)))])), (mCall listD [(mVar 10)]), (mTup [(mK (.int 1)), (mUn negD (mK (.int 1)))]), (mK .non)]
      [x0, x1, some (.ref n), x3, some (.int c), some (csT css), some (.lst (bss.map tT)), x7, x8, x9, some (clT ns), x11, x12, x13, x14, x15, x16, x17] S2 = .ok (.lst [clT ns, r, clT [], clT (ns ++ [c + 1]), .lst (ns.map .int), clT [1, -1], .non]) S3 := by
    simp only [e_fnRun, e_bnd, e_bndS, e_seq, e_if, e_ret, e_retN, e_set, e_expr, e_raise, e_nil, e_par, e_asg, e_sub, e_args0, e_args1, e_rt, e_some, e_var, e_k, e_call, e_un, e_op, e_test, e_boolD, e_bAnd, e_bOr, e_bNot, e_mAnd, e_mOr, e_mNot, e_mIf, e_chain, e_tup, e_lst, e_own, e_isN, e_notN, e_part, e_noPart, e_intD, e_sl, e_seqM, e_its, e_tupM, e_lstM, e_yes, e_el, e_gtN, e_gtNil, e_gtCons, e_gtTup, e_addI, e_subI, e_ltI, e_leI, e_gtI, e_geI, e_negI, e_lenT, e_lenL, e_tupT, e_tupL, e_lstT, e_slT, e_slL, e_ix0, e_ix1, e_ix2, e_il0, e_il1, e_il2, D.isNon, List.map_cons, List.map_nil, List.cons_append, List.nil_append, List.length_cons, List.length_nil, Nat.reduceAdd, Nat.reduceSub, List.replicate_succ, List.replicate_zero, List.set_cons_zero, List.set_cons_succ, List.getElem?_cons_zero, List.getElem?_cons_succ, Option.join_some, wipeE, if_true, if_false, reduceIte, Bool.false_eq_true, Bool.not_true, Bool.not_false, e3, ad]
    rfl
  have p1 : Pt (clT ns) := pt_cl (by omega)
  have p3 : Pt (clT []) := pt_cl (by simp)
  have p4 : Pt (clT (ns ++ [c + 1])) := pt_cl (by rw [List.length_append]; simp only [List.length_cons, List.length_nil]; omega)
  have p5 : Pt (.lst (ns.map .int)) := ⟨rfl, fun xs e => by cases e⟩
  have p6 : Pt (clT [1, -1]) := pt_cl (by simp)
  have p7 : Pt .non := ⟨rfl, fun xs e => by cases e⟩
  have step : ∀ (v : D) (ds : List D) (z11 z12 z13 z14 : Option D) (S : Store), Pt v → Dk S n → ∃ y12 y13 y14 S', forD (fun _ => True) (gtN 11) vaB (v :: ds) [x0, x1, some (.ref n), x3, some (.int c), some (csT css), some (.lst (bss.map tT)), x7, x8, x9, some (clT ns), z11, z12, z13, z14, x15, x16, x17] S
      = forD (fun _ => True) (gtN 11) vaB ds [x0, x1, some (.ref n), x3, some (.int c), some (csT css), some (.lst (bss.map tT)), x7, x8, x9, some (clT ns), some v, y12, y13, y14, x15, x16, x17] S' ∧ Dk S' n := fun v ds z11 z12 z13 z14 S hv hS => by
    obtain ⟨y12, y13, y14, S', e, hd⟩ := va_ok (x0 := x0) (x1 := x1) (x2 := some (.ref n)) (x3 := x3) (x6 := some (.lst (bss.map tT))) (x7 := x7) (x8 := x8) (x9 := x9) (x10 := some (clT ns)) (x12 := z12) (x13 := z13) (x14 := z14) (x15 := x15) (x16 := x16) (x17 := x17) h hv hS
    exact ⟨y12, y13, y14, S', forT_cons rfl e, hd⟩
  obtain ⟨a1, a2, a3, T1, f1, d1⟩ := step (clT ns) [r, clT [], clT (ns ++ [c + 1]), .lst (ns.map .int), clT [1, -1], .non] x11 x12 x13 x14 S3 p1 v3.2.2
  obtain ⟨b1, b2, b3, T2, f2, d2⟩ := step r [clT [], clT (ns ++ [c + 1]), .lst (ns.map .int), clT [1, -1], .non] (some (clT ns)) a1 a2 a3 T1 pr d1
  obtain ⟨c1, c2, c3, T3, f3, d3⟩ := step (clT []) [clT (ns ++ [c + 1]), .lst (ns.map .int), clT [1, -1], .non] (some r) b1 b2 b3 T2 p3 d2
  obtain ⟨g1, g2, g3, T4, f4, d4⟩ := step (clT (ns ++ [c + 1])) [.lst (ns.map .int), clT [1, -1], .non] (some (clT [])) c1 c2 c3 T3 p4 d3
  obtain ⟨i1, i2, i3, T5, f5, d5⟩ := step (.lst (ns.map .int)) [clT [1, -1], .non] (some (clT (ns ++ [c + 1]))) g1 g2 g3 T4 p5 d4
  obtain ⟨j1, j2, j3, T6, f6, d6⟩ := step (clT [1, -1]) [.non] (some (.lst (ns.map .int))) i1 i2 i3 T5 p6 d5
  obtain ⟨q1, q2, q3, T7, f7, d7⟩ := step .non [] (some (clT [1, -1])) j1 j2 j3 T6 p7 d6
  refine ⟨some (clT ns), some .non, q1, q2, q3, T7, ?_, d7⟩
  unfold agB
  simp only [e_fnRun, e_bnd, e_bndS, e_seq, e_if, e_ret, e_retN, e_set, e_expr, e_raise, e_nil, e_par, e_asg, e_sub, e_args0, e_args1, e_rt, e_some, e_var, e_k, e_call, e_un, e_op, e_test, e_boolD, e_bAnd, e_bOr, e_bNot, e_mAnd, e_mOr, e_mNot, e_mIf, e_chain, e_tup, e_lst, e_own, e_isN, e_notN, e_part, e_noPart, e_intD, e_sl, e_seqM, e_its, e_tupM, e_lstM, e_yes, e_el, e_gtN, e_gtNil, e_gtCons, e_gtTup, e_addI, e_subI, e_ltI, e_leI, e_gtI, e_geI, e_negI, e_lenT, e_lenL, e_tupT, e_tupL, e_lstT, e_slT, e_slL, e_ix0, e_ix1, e_ix2, e_il0, e_il1, e_il2, D.isNon, List.map_cons, List.map_nil, List.cons_append, List.nil_append, List.length_cons, List.length_nil, Nat.reduceAdd, Nat.reduceSub, List.replicate_succ, List.replicate_zero, List.set_cons_zero, List.set_cons_succ, List.getElem?_cons_zero, List.getElem?_cons_succ, Option.join_some, wipeE, if_true, if_false, reduceIte, Bool.false_eq_true, Bool.not_true, Bool.not_false, e1, e2]
  rw [e_forL L, f1, f2, f3, f4, f5, f6, f7, forT_nil]
end
end K14

set_option Elab.async false
set_option maxRecDepth 100000
set_option linter.all false
set_option maxHeartbeats 4000000
namespace K14
open PySem hiding ret
open Mir
open Classical
theorem ne_same {d : D} {p : PyData} (h : pyD d = some p) (h2 : ∀ n, d ≠ .ref n) (h3 : eqOk p p) (h4 : PyData.eqv p p = true) (S : Store) : neD d d S = .ok (.bl false) S := by
  have e : pyOf S d = some p := by
    cases d <;> first | exact h | exact absurd rfl (h2 _)
  simp only [neD, e, if_pos h3, h4, Bool.not_true]
/-- clauses that are none are refused -/
theorem bad_clauses {c : Int} {v : D} {w : Int} (hc : 0 ≤ c) (hv : Cw v) (hb : clsOk c v = false) (hw : w = 0 ∨ w = 1 ∨ w = 2) (S : Store) : m__law_ask [.int w, .lst [.int c, v, .non]] S = .ok (.str "clauses") S := by
  have e1 : m_check_clauses [.int c, v] S = .err 1 S := by rw [check_clauses_ok hc hv, hb]; rfl
  rcases hw with rfl | rfl | rfl
  · have : m_forced [.int c, v, .non] S = .err 1 S := by
      unfold m_forced
      simp only [e_fnRun, e_bnd, e_bndS, e_seq, e_if, e_ret, e_retN, e_set, e_expr, e_raise, e_nil, e_par, e_asg, e_sub, e_args0, e_args1, e_rt, e_some, e_var, e_k, e_call, e_un, e_op, e_test, e_boolD, e_bAnd, e_bOr, e_bNot, e_mAnd, e_mOr, e_mNot, e_mIf, e_chain, e_tup, e_lst, e_own, e_isN, e_notN, e_part, e_noPart, e_intD, e_sl, e_seqM, e_its, e_tupM, e_lstM, e_yes, e_el, e_gtN, e_gtNil, e_gtCons, e_gtTup, e_addI, e_subI, e_ltI, e_leI, e_gtI, e_geI, e_negI, e_lenT, e_lenL, e_tupT, e_tupL, e_lstT, e_slT, e_slL, e_ix0, e_ix1, e_ix2, e_il0, e_il1, e_il2, D.isNon, List.map_cons, List.map_nil, List.cons_append, List.nil_append, List.length_cons, List.length_nil, Nat.reduceAdd, Nat.reduceSub, List.replicate_succ, List.replicate_zero, List.set_cons_zero, List.set_cons_succ, List.getElem?_cons_zero, List.getElem?_cons_succ, Option.join_some, wipeE, if_true, if_false, reduceIte, Bool.false_eq_true, Bool.not_true, Bool.not_false, e1]
    rw [ask0, this]
    rfl
  · have : m_is_settled [.int c, v, .non] S = .err 1 S := by
      unfold m_is_settled
      simp only [e_fnRun, e_bnd, e_bndS, e_seq, e_if, e_ret, e_retN, e_set, e_expr, e_raise, e_nil, e_par, e_asg, e_sub, e_args0, e_args1, e_rt, e_some, e_var, e_k, e_call, e_un, e_op, e_test, e_boolD, e_bAnd, e_bOr, e_bNot, e_mAnd, e_mOr, e_mNot, e_mIf, e_chain, e_tup, e_lst, e_own, e_isN, e_notN, e_part, e_noPart, e_intD, e_sl, e_seqM, e_its, e_tupM, e_lstM, e_yes, e_el, e_gtN, e_gtNil, e_gtCons, e_gtTup, e_addI, e_subI, e_ltI, e_leI, e_gtI, e_geI, e_negI, e_lenT, e_lenL, e_tupT, e_tupL, e_lstT, e_slT, e_slL, e_ix0, e_ix1, e_ix2, e_il0, e_il1, e_il2, D.isNon, List.map_cons, List.map_nil, List.cons_append, List.nil_append, List.length_cons, List.length_nil, Nat.reduceAdd, Nat.reduceSub, List.replicate_succ, List.replicate_zero, List.set_cons_zero, List.set_cons_succ, List.getElem?_cons_zero, List.getElem?_cons_succ, Option.join_some, wipeE, if_true, if_false, reduceIte, Bool.false_eq_true, Bool.not_true, Bool.not_false, e1]
    rw [ask1, this]
    rfl
  · have : m_probes [.int c, v] S = .err 1 S := by
      unfold m_probes
      simp only [e_fnRun, e_bnd, e_bndS, e_seq, e_if, e_ret, e_retN, e_set, e_expr, e_raise, e_nil, e_par, e_asg, e_sub, e_args0, e_args1, e_rt, e_some, e_var, e_k, e_call, e_un, e_op, e_test, e_boolD, e_bAnd, e_bOr, e_bNot, e_mAnd, e_mOr, e_mNot, e_mIf, e_chain, e_tup, e_lst, e_own, e_isN, e_notN, e_part, e_noPart, e_intD, e_sl, e_seqM, e_its, e_tupM, e_lstM, e_yes, e_el, e_gtN, e_gtNil, e_gtCons, e_gtTup, e_addI, e_subI, e_ltI, e_leI, e_gtI, e_geI, e_negI, e_lenT, e_lenL, e_tupT, e_tupL, e_lstT, e_slT, e_slL, e_ix0, e_ix1, e_ix2, e_il0, e_il1, e_il2, D.isNon, List.map_cons, List.map_nil, List.cons_append, List.nil_append, List.length_cons, List.length_nil, Nat.reduceAdd, Nat.reduceSub, List.replicate_succ, List.replicate_zero, List.set_cons_zero, List.set_cons_succ, List.getElem?_cons_zero, List.getElem?_cons_succ, Option.join_some, wipeE, if_true, if_false, reduceIte, Bool.false_eq_true, Bool.not_true, Bool.not_false, e1]
    rw [ask2, this]
    rfl
/-- a count that is none is refused -/
theorem bad_count {d v : D} {w : Int} (hd : Ty d = true) (hi : ∀ i, d = .int i → i < 0) (hw : w = 0 ∨ w = 1 ∨ w = 2) (S : Store) : m__law_ask [.int w, .lst [d, v, .non]] S = .ok (.str "number") S := by
  have e0 := count_bad hd hi S
  have e1 : m_check_clauses [d, v] S = .err 0 S := by
    unfold m_check_clauses
    simp only [e_fnRun, e_bnd, e_bndS, e_seq, e_if, e_ret, e_retN, e_set, e_expr, e_raise, e_nil, e_par, e_asg, e_sub, e_args0, e_args1, e_rt, e_some, e_var, e_k, e_call, e_un, e_op, e_test, e_boolD, e_bAnd, e_bOr, e_bNot, e_mAnd, e_mOr, e_mNot, e_mIf, e_chain, e_tup, e_lst, e_own, e_isN, e_notN, e_part, e_noPart, e_intD, e_sl, e_seqM, e_its, e_tupM, e_lstM, e_yes, e_el, e_gtN, e_gtNil, e_gtCons, e_gtTup, e_addI, e_subI, e_ltI, e_leI, e_gtI, e_geI, e_negI, e_lenT, e_lenL, e_tupT, e_tupL, e_lstT, e_slT, e_slL, e_ix0, e_ix1, e_ix2, e_il0, e_il1, e_il2, D.isNon, List.map_cons, List.map_nil, List.cons_append, List.nil_append, List.length_cons, List.length_nil, Nat.reduceAdd, Nat.reduceSub, List.replicate_succ, List.replicate_zero, List.set_cons_zero, List.set_cons_succ, List.getElem?_cons_zero, List.getElem?_cons_succ, Option.join_some, wipeE, if_true, if_false, reduceIte, Bool.false_eq_true, Bool.not_true, Bool.not_false, e0]
  rcases hw with rfl | rfl | rfl
  · have : m_forced [d, v, .non] S = .err 0 S := by
      unfold m_forced
      simp only [e_fnRun, e_bnd, e_bndS, e_seq, e_if, e_ret, e_retN, e_set, e_expr, e_raise, e_nil, e_par, e_asg, e_sub, e_args0, e_args1, e_rt, e_some, e_var, e_k, e_call, e_un, e_op, e_test, e_boolD, e_bAnd, e_bOr, e_bNot, e_mAnd, e_mOr, e_mNot, e_mIf, e_chain, e_tup, e_lst, e_own, e_isN, e_notN, e_part, e_noPart, e_intD, e_sl, e_seqM, e_its, e_tupM, e_lstM, e_yes, e_el, e_gtN, e_gtNil, e_gtCons, e_gtTup, e_addI, e_subI, e_ltI, e_leI, e_gtI, e_geI, e_negI, e_lenT, e_lenL, e_tupT, e_tupL, e_lstT, e_slT, e_slL, e_ix0, e_ix1, e_ix2, e_il0, e_il1, e_il2, D.isNon, List.map_cons, List.map_nil, List.cons_append, List.nil_append, List.length_cons, List.length_nil, Nat.reduceAdd, Nat.reduceSub, List.replicate_succ, List.replicate_zero, List.set_cons_zero, List.set_cons_succ, List.getElem?_cons_zero, List.getElem?_cons_succ, Option.join_some, wipeE, if_true, if_false, reduceIte, Bool.false_eq_true, Bool.not_true, Bool.not_false, e1]
    rw [ask0, this]
    rfl
  · have : m_is_settled [d, v, .non] S = .err 0 S := by
      unfold m_is_settled
      simp only [e_fnRun, e_bnd, e_bndS, e_seq, e_if, e_ret, e_retN, e_set, e_expr, e_raise, e_nil, e_par, e_asg, e_sub, e_args0, e_args1, e_rt, e_some, e_var, e_k, e_call, e_un, e_op, e_test, e_boolD, e_bAnd, e_bOr, e_bNot, e_mAnd, e_mOr, e_mNot, e_mIf, e_chain, e_tup, e_lst, e_own, e_isN, e_notN, e_part, e_noPart, e_intD, e_sl, e_seqM, e_its, e_tupM, e_lstM, e_yes, e_el, e_gtN, e_gtNil, e_gtCons, e_gtTup, e_addI, e_subI, e_ltI, e_leI, e_gtI, e_geI, e_negI, e_lenT, e_lenL, e_tupT, e_tupL, e_lstT, e_slT, e_slL, e_ix0, e_ix1, e_ix2, e_il0, e_il1, e_il2, D.isNon, List.map_cons, List.map_nil, List.cons_append, List.nil_append, List.length_cons, List.length_nil, Nat.reduceAdd, Nat.reduceSub, List.replicate_succ, List.replicate_zero, List.set_cons_zero, List.set_cons_succ, List.getElem?_cons_zero, List.getElem?_cons_succ, Option.join_some, wipeE, if_true, if_false, reduceIte, Bool.false_eq_true, Bool.not_true, Bool.not_false, e1]
    rw [ask1, this]
    rfl
  · have : m_probes [d, v] S = .err 0 S := by
      unfold m_probes
      simp only [e_fnRun, e_bnd, e_bndS, e_seq, e_if, e_ret, e_retN, e_set, e_expr, e_raise, e_nil, e_par, e_asg, e_sub, e_args0, e_args1, e_rt, e_some, e_var, e_k, e_call, e_un, e_op, e_test, e_boolD, e_bAnd, e_bOr, e_bNot, e_mAnd, e_mOr, e_mNot, e_mIf, e_chain, e_tup, e_lst, e_own, e_isN, e_notN, e_part, e_noPart, e_intD, e_sl, e_seqM, e_its, e_tupM, e_lstM, e_yes, e_el, e_gtN, e_gtNil, e_gtCons, e_gtTup, e_addI, e_subI, e_ltI, e_leI, e_gtI, e_geI, e_negI, e_lenT, e_lenL, e_tupT, e_tupL, e_lstT, e_slT, e_slL, e_ix0, e_ix1, e_ix2, e_il0, e_il1, e_il2, D.isNon, List.map_cons, List.map_nil, List.cons_append, List.nil_append, List.length_cons, List.length_nil, Nat.reduceAdd, Nat.reduceSub, List.replicate_succ, List.replicate_zero, List.set_cons_zero, List.set_cons_succ, List.getElem?_cons_zero, List.getElem?_cons_succ, Option.join_some, wipeE, if_true, if_false, reduceIte, Bool.false_eq_true, Bool.not_true, Bool.not_false, e1]
    rw [ask2, this]
    rfl
theorem not_cl {c : Int} {v : D} (h : ∀ ns : List Int, v = clT ns → ¬ Cl c ns) : clD (Cl c) v = false := by
  cases q : clD (Cl c) v with
  | false => rfl
  | true =>
    obtain ⟨ns, e, p⟩ := clD_tup q
    exact absurd p (h ns e)
theorem ints_inj {ns ms : List Int} (h : clT ns = clT ms) : ns = ms := by
  have := congrArg intsOf (D.tup.inj h)
  rw [intsOf_map, intsOf_map] at this
  exact Option.some.inj this
theorem no_clauses_ok {S : Store} {n : Nat} {c : Int} (hk : Dk S n) (c0 : 1 ≤ c) : ∃ v S', m__law_no_clauses [.ref n, .int c] S = .ok v S' ∧ Ev n S S' ∧ Cw v ∧ clsOk c v = false := by
  let xs : List D := [.non, .lst [], .int 3, .tup [clT [0]], .tup [clT [1, -1]], .tup [clT [2, 1]], .tup [clT [c + 1]], .tup [.lst [.int 1]], .tup [.tup [.bl true]], .tup [clT [1, 1]], .tup [.int 1], .str "x", .dic [] []]
  obtain ⟨x, S', e, hx, v⟩ := pick_ok (row := .lst xs) (b := false) (xs := xs) hk (fun _ _ => rfl) (by simp [xs]) (by simp [xs])
  refine ⟨x, S', ?_, v, ?_⟩
  · unfold m__law_no_clauses
    simp only [e_fnRun, e_bnd, e_bndS, e_seq, e_if, e_ret, e_retN, e_set, e_expr, e_raise, e_nil, e_par, e_asg, e_sub, e_args0, e_args1, e_rt, e_some, e_var, e_k, e_call, e_un, e_op, e_test, e_boolD, e_bAnd, e_bOr, e_bNot, e_mAnd, e_mOr, e_mNot, e_mIf, e_chain, e_tup, e_lst, e_own, e_isN, e_notN, e_part, e_noPart, e_intD, e_sl, e_seqM, e_its, e_tupM, e_lstM, e_yes, e_el, e_gtN, e_gtNil, e_gtCons, e_gtTup, e_addI, e_subI, e_ltI, e_leI, e_gtI, e_geI, e_negI, e_lenT, e_lenL, e_tupT, e_tupL, e_lstT, e_slT, e_slL, e_ix0, e_ix1, e_ix2, e_il0, e_il1, e_il2, D.isNon, List.map_cons, List.map_nil, List.cons_append, List.nil_append, List.length_cons, List.length_nil, Nat.reduceAdd, Nat.reduceSub, List.replicate_succ, List.replicate_zero, List.set_cons_zero, List.set_cons_succ, List.getElem?_cons_zero, List.getElem?_cons_succ, Option.join_some, wipeE, if_true, if_false, reduceIte, Bool.false_eq_true, Bool.not_true, Bool.not_false]
    rw [show (D.lst [.non, .lst [], .int 3, .tup [.tup [.int 0]], .tup [.tup [.int 1, .int (-1)]], .tup [.tup [.int 2, .int 1]], .tup [.tup [.int (c + 1)]], .tup [.lst [.int 1]], .tup [.tup [.bl true]], .tup [.tup [.int 1, .int 1]], .tup [.int 1], .str "x", .dic [] []]) = .lst xs from rfl, e]
  · have one : ∀ d : D, Pt d → clD (Cl c) d = false → Cw (.tup [d]) ∧ clsOk c (.tup [d]) = false := fun d hd hb =>
      ⟨⟨rfl, fun xs e x hx => by cases e; simp at hx; subst hx; exact hd⟩, by simp only [clsOk, List.all_cons, List.all_nil, hb, Bool.false_and]⟩
    have atom : ∀ d : D, Ty d = true → isTup d = false → Cw d ∧ clsOk c d = false := fun d h1 h2 => ⟨⟨h1, fun xs e => by subst e; cases h2⟩, by cases d <;> first | rfl | cases h2⟩
    have pa : ∀ d : D, Ty d = true → isTup d = false → Pt d := fun d h1 h2 => ⟨h1, fun xs e => by subst e; cases h2⟩
    have cl : ∀ ns : List Int, ns.length ≤ 50 → ¬ Cl c ns → Cw (.tup [clT ns]) ∧ clsOk c (.tup [clT ns]) = false := fun ns hl h =>
      one _ (pt_cl hl) (by rw [clD_ints]; exact decide_eq_false h)
    simp only [xs, List.mem_cons, List.not_mem_nil, or_false] at hx
    rcases hx with rfl | rfl | rfl | rfl | rfl | rfl | rfl | rfl | rfl | rfl | rfl | rfl | rfl
    · exact atom _ rfl rfl
    · exact atom _ rfl rfl
    · exact atom _ rfl rfl
    · exact cl _ (by simp) fun z => (z.1 0 (by simp)).1 rfl
    · exact cl _ (by simp) fun z => z.2.2 1 (by simp) (by simp)
    · exact cl _ (by simp) fun z => by have := z.2.1; simp at this
    · exact cl _ (by simp) fun z => by have := (z.1 (c + 1) (by simp)).2.2; omega
    · exact one _ (pa _ rfl rfl) rfl
    · exact one _ ⟨rfl, fun xs e => by cases e; exact ⟨by simp, fun x hx => by simp at hx; subst hx; rfl⟩⟩ rfl
    · exact cl _ (by simp) fun z => by have := z.2.1; simp at this
    · exact one _ (pa _ rfl rfl) rfl
    · exact atom _ rfl rfl
    · exact atom _ rfl rfl
end K14

set_option Elab.async false
set_option maxRecDepth 100000
set_option linter.all false
set_option maxHeartbeats 4000000
namespace K14
open PySem hiding ret
open Mir
open Classical
section
variable {x0 x1 x3 x5 x6 x7 x8 x9 x10 x11 x12 x13 x14 x15 x16 x17 : Option D} {S : Store} {c : Int} {n : Nat}
theorem w3 {k : Nat} (h : k < 3) : (k : Int) = 0 ∨ (k : Int) = 1 ∨ (k : Int) = 2 := by omega
theorem fi_ok (hk : Dk S n) (c0 : 1 ≤ c) : ∃ y15 S', fiB [x0, x1, some (.ref n), x3, some (.int c), x5, x6, x7, x8, x9, x10, x11, x12, x13, x14, x15, x16, x17] S
    = .nx [x0, x1, some (.ref n), x3, some (.int c), x5, x6, x7, x8, x9, x10, x11, x12, x13, x14, y15, x16, x17] S' ∧ Dk S' n := by
  have hs := sl_small
  obtain ⟨v, S1, e1, v1, cw, cb⟩ := no_clauses_ok (c := c) hk c0
  have rg : ∀ S : Store, range1M [.int 3] S = .ok (rangeD 0 3, fun _ => True) S := fun S => rfl
  have a1 : mLc [13] (mIts range1M [(mK (.int 3))]) (gtN 13) bYes (mCall m__law_ask [(mVar 13), (mLst [(mVar 4), (mVar 15), (mK .non)])]) resF [x0, x1, some (.ref n), x3, some (.int c), x5, x6, x7, x8, x9, x10, x11, x12, x13, x14, some v, x16, x17] S1 = .ok (.lst [.str "clauses", .str "clauses", .str "clauses"]) S1 :=
    mLc_range (n := 3) (g := fun _ => True) (by simp only [e_fnRun, e_bnd, e_bndS, e_seq, e_if, e_ret, e_retN, e_set, e_expr, e_raise, e_nil, e_par, e_asg, e_sub, e_args0, e_args1, e_rt, e_some, e_var, e_k, e_call, e_un, e_op, e_test, e_boolD, e_bAnd, e_bOr, e_bNot, e_mAnd, e_mOr, e_mNot, e_mIf, e_chain, e_tup, e_lst, e_own, e_isN, e_notN, e_part, e_noPart, e_intD, e_sl, e_seqM, e_its, e_tupM, e_lstM, e_yes, e_el, e_gtN, e_gtNil, e_gtCons, e_gtTup, e_addI, e_subI, e_ltI, e_leI, e_gtI, e_geI, e_negI, e_lenT, e_lenL, e_tupT, e_tupL, e_lstT, e_slT, e_slL, e_ix0, e_ix1, e_ix2, e_il0, e_il1, e_il2, D.isNon, List.map_cons, List.map_nil, List.cons_append, List.nil_append, List.length_cons, List.length_nil, Nat.reduceAdd, Nat.reduceSub, List.replicate_succ, List.replicate_zero, List.set_cons_zero, List.set_cons_succ, List.getElem?_cons_zero, List.getElem?_cons_succ, Option.join_some, wipeE, if_true, if_false, reduceIte, Bool.false_eq_true, Bool.not_true, Bool.not_false, rg]) trivial (fun _ => .str "clauses") fun k hk => by
      simp only [e_fnRun, e_bnd, e_bndS, e_seq, e_if, e_ret, e_retN, e_set, e_expr, e_raise, e_nil, e_par, e_asg, e_sub, e_args0, e_args1, e_rt, e_some, e_var, e_k, e_call, e_un, e_op, e_test, e_boolD, e_bAnd, e_bOr, e_bNot, e_mAnd, e_mOr, e_mNot, e_mIf, e_chain, e_tup, e_lst, e_own, e_isN, e_notN, e_part, e_noPart, e_intD, e_sl, e_seqM, e_its, e_tupM, e_lstM, e_yes, e_el, e_gtN, e_gtNil, e_gtCons, e_gtTup, e_addI, e_subI, e_ltI, e_leI, e_gtI, e_geI, e_negI, e_lenT, e_lenL, e_tupT, e_tupL, e_lstT, e_slT, e_slL, e_ix0, e_ix1, e_ix2, e_il0, e_il1, e_il2, D.isNon, List.map_cons, List.map_nil, List.cons_append, List.nil_append, List.length_cons, List.length_nil, Nat.reduceAdd, Nat.reduceSub, List.replicate_succ, List.replicate_zero, List.set_cons_zero, List.set_cons_succ, List.getElem?_cons_zero, List.getElem?_cons_succ, Option.join_some, wipeE, if_true, if_false, reduceIte, Bool.false_eq_true, Bool.not_true, Bool.not_false, bad_clauses (c := c) (v := v) (w := (k : Int)) (by omega) cw cb (w3 hk)]
  have a2 : ∀ (x : PySem.Str) (S : Store), mRep [(mK (.str x))] (mK (.int 3)) [x0, x1, some (.ref n), x3, some (.int c), x5, x6, x7, x8, x9, x10, x11, x12, x13, x14, some v, x16, x17] S = .ok (.lst [.str x, .str x, .str x]) S := fun x S => by
    show bnd _ _ S = _
    simp only [e_fnRun, e_bnd, e_bndS, e_seq, e_if, e_ret, e_retN, e_set, e_expr, e_raise, e_nil, e_par, e_asg, e_sub, e_args0, e_args1, e_rt, e_some, e_var, e_k, e_call, e_un, e_op, e_test, e_boolD, e_bAnd, e_bOr, e_bNot, e_mAnd, e_mOr, e_mNot, e_mIf, e_chain, e_tup, e_lst, e_own, e_isN, e_notN, e_part, e_noPart, e_intD, e_sl, e_seqM, e_its, e_tupM, e_lstM, e_yes, e_el, e_gtN, e_gtNil, e_gtCons, e_gtTup, e_addI, e_subI, e_ltI, e_leI, e_gtI, e_geI, e_negI, e_lenT, e_lenL, e_tupT, e_tupL, e_lstT, e_slT, e_slL, e_ix0, e_ix1, e_ix2, e_il0, e_il1, e_il2, D.isNon, List.map_cons, List.map_nil, List.cons_append, List.nil_append, List.length_cons, List.length_nil, Nat.reduceAdd, Nat.reduceSub, List.replicate_succ, List.replicate_zero, List.set_cons_zero, List.set_cons_succ, List.getElem?_cons_zero, List.getElem?_cons_succ, Option.join_some, wipeE, if_true, if_false, reduceIte, Bool.false_eq_true, Bool.not_true, Bool.not_false]
    rw [if_pos ⟨by decide, by decide, by show 1 * 3 ≤ sizeLine; omega⟩]
    rfl
  have n1 : ∀ S, neD (.lst [.str "clauses", .str "clauses", .str "clauses"]) (.lst [.str "clauses", .str "clauses", .str "clauses"]) S = .ok (.bl false) S := fun S =>
    ne_same (p := .list [.str "clauses", .str "clauses", .str "clauses"]) rfl (fun n e => by cases e) ⟨by decide +kernel, by decide +kernel, by decide +kernel⟩ (by decide +kernel) S
  have n2 : ∀ S, neD (.lst [.str "number", .str "number", .str "number"]) (.lst [.str "number", .str "number", .str "number"]) S = .ok (.bl false) S := fun S =>
    ne_same (p := .list [.str "number", .str "number", .str "number"]) rfl (fun n e => by cases e) ⟨by decide +kernel, by decide +kernel, by decide +kernel⟩ (by decide +kernel) S
  obtain ⟨xs, S2, e2, h2, l2, q2⟩ := lcD_inv (f := elD (wipeE [x0, x1, some (.ref n), x3, some (.int c), x5, x6, x7, x8, x9, x10, x11, x12, x13, x14, some v, x16, x17] [13]) (gtN 13) bYes (mCall m__law_ask [(mVar 13), (mLst [(mCall m__law_pick [(mVar 2), (mLst [(mUn negD (mK (.int 1))), (mK .non), (mK (.bl true)), (mK (.str "3"))])]), (mVar 15), (mK .non)])])) (I := fun S => Dk S n) (Q := fun x => x = .str "number") (ds := rangeD 0 3)
    (fun d hd S hS => by
      obtain ⟨k, hk3, rfl⟩ : ∃ k : Nat, k < 3 ∧ d = .int (k : Int) := by
        obtain ⟨i, hi⟩ := List.mem_iff_getElem?.mp hd
        obtain ⟨h1, h2⟩ := rangeD_get hi
        exact ⟨i, h1, by rw [h2]; simp⟩
      obtain ⟨x, S', e, hx, vv⟩ := pick_ok (row := .lst [.int (-1), .non, .bl true, .str "3"]) (b := false) (xs := [.int (-1), .non, .bl true, .str "3"]) hS (fun _ _ => rfl) (by simp) (by simp)
      have hx2 : Ty x = true ∧ ∀ i, x = .int i → i < 0 := by
        simp only [List.mem_cons, List.not_mem_nil, or_false] at hx
        rcases hx with rfl | rfl | rfl | rfl
        · exact ⟨rfl, fun i e => by cases e; decide⟩
        · exact ⟨rfl, fun i e => by cases e⟩
        · exact ⟨rfl, fun i e => by cases e⟩
        · exact ⟨rfl, fun i e => by cases e⟩
      refine ⟨.str "number", S', ?_, vv.2.2, rfl⟩
      simp only [e_fnRun, e_bnd, e_bndS, e_seq, e_if, e_ret, e_retN, e_set, e_expr, e_raise, e_nil, e_par, e_asg, e_sub, e_args0, e_args1, e_rt, e_some, e_var, e_k, e_call, e_un, e_op, e_test, e_boolD, e_bAnd, e_bOr, e_bNot, e_mAnd, e_mOr, e_mNot, e_mIf, e_chain, e_tup, e_lst, e_own, e_isN, e_notN, e_part, e_noPart, e_intD, e_sl, e_seqM, e_its, e_tupM, e_lstM, e_yes, e_el, e_gtN, e_gtNil, e_gtCons, e_gtTup, e_addI, e_subI, e_ltI, e_leI, e_gtI, e_geI, e_negI, e_lenT, e_lenL, e_tupT, e_tupL, e_lstT, e_slT, e_slL, e_ix0, e_ix1, e_ix2, e_il0, e_il1, e_il2, D.isNon, List.map_cons, List.map_nil, List.cons_append, List.nil_append, List.length_cons, List.length_nil, Nat.reduceAdd, Nat.reduceSub, List.replicate_succ, List.replicate_zero, List.set_cons_zero, List.set_cons_succ, List.getElem?_cons_zero, List.getElem?_cons_succ, Option.join_some, wipeE, if_true, if_false, reduceIte, Bool.false_eq_true, Bool.not_true, Bool.not_false, e, bad_count (v := v) hx2.1 hx2.2 (w3 hk3) S']) v1.2.2
  have hxs : xs = [.str "number", .str "number", .str "number"] := by
    have hl : xs.length = 3 := by rw [l2]; rfl
    match xs, hl, q2 with
    | [a, b, d], _, q2 =>
      rw [q2 a (by simp), q2 b (by simp), q2 d (by simp)]
  subst hxs
  have a3 : mLc [13] (mIts range1M [(mK (.int 3))]) (gtN 13) bYes (mCall m__law_ask [(mVar 13), (mLst [(mCall m__law_pick [(mVar 2), (mLst [(mUn negD (mK (.int 1))), (mK .non), (mK (.bl true)), (mK (.str "3"))])]), (mVar 15), (mK .non)])]) resF [x0, x1, some (.ref n), x3, some (.int c), x5, x6, x7, x8, x9, x10, x11, x12, x13, x14, some v, x16, x17] S1 = .ok (.lst [.str "number", .str "number", .str "number"]) S2 :=
    lc_true (g := fun _ => True) (by simp only [e_fnRun, e_bnd, e_bndS, e_seq, e_if, e_ret, e_retN, e_set, e_expr, e_raise, e_nil, e_par, e_asg, e_sub, e_args0, e_args1, e_rt, e_some, e_var, e_k, e_call, e_un, e_op, e_test, e_boolD, e_bAnd, e_bOr, e_bNot, e_mAnd, e_mOr, e_mNot, e_mIf, e_chain, e_tup, e_lst, e_own, e_isN, e_notN, e_part, e_noPart, e_intD, e_sl, e_seqM, e_its, e_tupM, e_lstM, e_yes, e_el, e_gtN, e_gtNil, e_gtCons, e_gtTup, e_addI, e_subI, e_ltI, e_leI, e_gtI, e_geI, e_negI, e_lenT, e_lenL, e_tupT, e_tupL, e_lstT, e_slT, e_slL, e_ix0, e_ix1, e_ix2, e_il0, e_il1, e_il2, D.isNon, List.map_cons, List.map_nil, List.cons_append, List.nil_append, List.length_cons, List.length_nil, Nat.reduceAdd, Nat.reduceSub, List.replicate_succ, List.replicate_zero, List.set_cons_zero, List.set_cons_succ, List.getElem?_cons_zero, List.getElem?_cons_succ, Option.join_some, wipeE, if_true, if_false, reduceIte, Bool.false_eq_true, Bool.not_true, Bool.not_false, rg]) (fun _ => trivial) e2
  refine ⟨some v, S2, ?_, h2⟩
  unfold fiB
  simp only [e_fnRun, e_bnd, e_bndS, e_seq, e_if, e_ret, e_retN, e_set, e_expr, e_raise, e_nil, e_par, e_asg, e_sub, e_args0, e_args1, e_rt, e_some, e_var, e_k, e_call, e_un, e_op, e_test, e_boolD, e_bAnd, e_bOr, e_bNot, e_mAnd, e_mOr, e_mNot, e_mIf, e_chain, e_tup, e_lst, e_own, e_isN, e_notN, e_part, e_noPart, e_intD, e_sl, e_seqM, e_its, e_tupM, e_lstM, e_yes, e_el, e_gtN, e_gtNil, e_gtCons, e_gtTup, e_addI, e_subI, e_ltI, e_leI, e_gtI, e_geI, e_negI, e_lenT, e_lenL, e_tupT, e_tupL, e_lstT, e_slT, e_slL, e_ix0, e_ix1, e_ix2, e_il0, e_il1, e_il2, D.isNon, List.map_cons, List.map_nil, List.cons_append, List.nil_append, List.length_cons, List.length_nil, Nat.reduceAdd, Nat.reduceSub, List.replicate_succ, List.replicate_zero, List.set_cons_zero, List.set_cons_succ, List.getElem?_cons_zero, List.getElem?_cons_succ, Option.join_some, wipeE, if_true, if_false, reduceIte, Bool.false_eq_true, Bool.not_true, Bool.not_false, e1, a1, a2, n1, a3, n2]
end
end K14

set_option Elab.async false
set_option maxRecDepth 100000
set_option linter.all false
set_option maxHeartbeats 4000000
namespace K14
open PySem hiding ret
open Mir
open Classical
section
variable {x0 x1 x3 x4 x5 x6 x7 x8 x9 x10 x11 x12 x13 x14 x15 x16 x17 : Option D} {S : Store} {n : Nat}
theorem signed_eq (c : Nat) : ((List.range c).map fun i : Nat => -((c : Int) + (i : Int) * (-1))) ++ ((List.range c).map fun i : Nat => 1 + (i : Int)) = lits c := by
  refine lt_unique ?_ (lits_lt c) fun k => ?_
  · refine List.pairwise_append.mpr ⟨range_lt _ _ fun i j h => by omega, range_lt _ _ fun i j h => by omega, fun a ha b hb => ?_⟩
    obtain ⟨i, hi, rfl⟩ := List.mem_map.mp ha
    obtain ⟨j, hj, rfl⟩ := List.mem_map.mp hb
    rw [List.mem_range] at hi hj
    omega
  · rw [mem_lits, List.mem_append, List.mem_map, List.mem_map]
    constructor
    · rintro (⟨i, hi, rfl⟩ | ⟨i, hi, rfl⟩) <;> (rw [List.mem_range] at hi; omega)
    · rintro ⟨h0, h1, h2⟩
      by_cases hk : k < 0
      · exact .inl ⟨(k + c).toNat, by rw [List.mem_range]; omega, by omega⟩
      · exact .inr ⟨(k - 1).toNat, by rw [List.mem_range]; omega, by omega⟩
theorem tu_ok (hk : Dk S n) : ∃ y4 y5 y6 y7 y8 y9 y10 y11 y12 y13 y14 y15 S', tuB [x0, x1, some (.ref n), x3, x4, x5, x6, x7, x8, x9, x10, x11, x12, x13, x14, x15, x16, x17] S
    = .nx [x0, x1, some (.ref n), x3, y4, y5, y6, y7, y8, y9, y10, y11, y12, y13, y14, y15, x16, x17] S' ∧ Dk S' n := by
  have hs := sl_small
  obtain ⟨r, S1, e1, r0, r1, v1⟩ := draw_ok (m := 8) hk (by decide) (by decide)
  obtain ⟨c, hcn⟩ : ∃ c : Nat, 1 + r = c := ⟨(1 + r).toNat, by omega⟩
  have c0 : (1 : Int) ≤ c := by omega
  have c8 : (c : Int) ≤ 8 := by omega
  obtain ⟨css, S2, e2, h2, hC⟩ := law_clauses_ok (c := c) v1.2.2 c0 c8
  obtain ⟨bss, e3, hm⟩ := models_ok (c := c) (css := css) c0 c8 (fun ns hn k hk => abs_in ((hC.cl ns hn).1.1 k hk)) S2
  have g7 : mOp addD (mLc [16] (mIts range3M [(mVar 4), (mK (.int 0)), (mUn negD (mK (.int 1)))]) (gtN 16) bYes (mUn negD (mVar 16)) resF) (mListRg false (mRg2 (mK (.int 1)) (mOp addD (mVar 4) (mK (.int 1)))))
      [x0, x1, some (.ref n), x3, some (.int c), some (csT css), some (.lst (bss.map tT)), x7, x8, x9, x10, x11, x12, x13, x14, x15, x16, x17] S2 = .ok (.lst ((lits c).map .int)) S2 := by
    have A : mLc [16] (mIts range3M [(mVar 4), (mK (.int 0)), (mUn negD (mK (.int 1)))]) (gtN 16) bYes (mUn negD (mVar 16)) resF [x0, x1, some (.ref n), x3, some (.int c), some (csT css), some (.lst (bss.map tT)), x7, x8, x9, x10, x11, x12, x13, x14, x15, x16, x17] S2 = .ok (.lst (((List.range c).map fun i : Nat => (c : Int) + (i : Int) * (-1)).map fun k => .int (-k))) S2 :=
      mLc_ints (g := fun _ => True) (by
        simp only [e_fnRun, e_bnd, e_bndS, e_seq, e_if, e_ret, e_retN, e_set, e_expr, e_raise, e_nil, e_par, e_asg, e_sub, e_args0, e_args1, e_rt, e_some, e_var, e_k, e_call, e_un, e_op, e_test, e_boolD, e_bAnd, e_bOr, e_bNot, e_mAnd, e_mOr, e_mNot, e_mIf, e_chain, e_tup, e_lst, e_own, e_isN, e_notN, e_part, e_noPart, e_intD, e_sl, e_seqM, e_its, e_tupM, e_lstM, e_yes, e_el, e_gtN, e_gtNil, e_gtCons, e_gtTup, e_addI, e_subI, e_ltI, e_leI, e_gtI, e_geI, e_negI, e_lenT, e_lenL, e_tupT, e_tupL, e_lstT, e_slT, e_slL, e_ix0, e_ix1, e_ix2, e_il0, e_il1, e_il2, D.isNon, List.map_cons, List.map_nil, List.cons_append, List.nil_append, List.length_cons, List.length_nil, Nat.reduceAdd, Nat.reduceSub, List.replicate_succ, List.replicate_zero, List.set_cons_zero, List.set_cons_succ, List.getElem?_cons_zero, List.getElem?_cons_succ, Option.join_some, wipeE, if_true, if_false, reduceIte, Bool.false_eq_true, Bool.not_true, Bool.not_false]
        simp only [range3M]
        rw [if_pos ⟨trivial, by omega, by omega, by omega, by omega, by omega⟩, show ((c : Int) - 0).toNat = c by omega]
        unfold downD
        rw [List.map_map]
        rfl) trivial _ fun k hk => by simp only [e_fnRun, e_bnd, e_bndS, e_seq, e_if, e_ret, e_retN, e_set, e_expr, e_raise, e_nil, e_par, e_asg, e_sub, e_args0, e_args1, e_rt, e_some, e_var, e_k, e_call, e_un, e_op, e_test, e_boolD, e_bAnd, e_bOr, e_bNot, e_mAnd, e_mOr, e_mNot, e_mIf, e_chain, e_tup, e_lst, e_own, e_isN, e_notN, e_part, e_noPart, e_intD, e_sl, e_seqM, e_its, e_tupM, e_lstM, e_yes, e_el, e_gtN, e_gtNil, e_gtCons, e_gtTup, e_addI, e_subI, e_ltI, e_leI, e_gtI, e_geI, e_negI, e_lenT, e_lenL, e_tupT, e_tupL, e_lstT, e_slT, e_slL, e_ix0, e_ix1, e_ix2, e_il0, e_il1, e_il2, D.isNon, List.map_cons, List.map_nil, List.cons_append, List.nil_append, List.length_cons, List.length_nil, Nat.reduceAdd, Nat.reduceSub, List.replicate_succ, List.replicate_zero, List.set_cons_zero, List.set_cons_succ, List.getElem?_cons_zero, List.getElem?_cons_succ, Option.join_some, wipeE, if_true, if_false, reduceIte, Bool.false_eq_true, Bool.not_true, Bool.not_false]
    have B : mListRg false (mRg2 (mK (.int 1)) (mOp addD (mVar 4) (mK (.int 1)))) [x0, x1, some (.ref n), x3, some (.int c), some (csT css), some (.lst (bss.map tT)), x7, x8, x9, x10, x11, x12, x13, x14, x15, x16, x17] S2 = .ok (.lst (((List.range c).map fun i : Nat => 1 + (i : Int)).map .int)) S2 := by
      show bnd _ (listRg false) S2 = _
      have e5 : mRg2 (mK (.int 1)) (mOp addD (mVar 4) (mK (.int 1))) [x0, x1, some (.ref n), x3, some (.int c), some (csT css), some (.lst (bss.map tT)), x7, x8, x9, x10, x11, x12, x13, x14, x15, x16, x17] S2 = .ok (1, (c : Int) + 1) S2 := by
        show bnd _ _ S2 = _
        simp only [e_fnRun, e_bnd, e_bndS, e_seq, e_if, e_ret, e_retN, e_set, e_expr, e_raise, e_nil, e_par, e_asg, e_sub, e_args0, e_args1, e_rt, e_some, e_var, e_k, e_call, e_un, e_op, e_test, e_boolD, e_bAnd, e_bOr, e_bNot, e_mAnd, e_mOr, e_mNot, e_mIf, e_chain, e_tup, e_lst, e_own, e_isN, e_notN, e_part, e_noPart, e_intD, e_sl, e_seqM, e_its, e_tupM, e_lstM, e_yes, e_el, e_gtN, e_gtNil, e_gtCons, e_gtTup, e_addI, e_subI, e_ltI, e_leI, e_gtI, e_geI, e_negI, e_lenT, e_lenL, e_tupT, e_tupL, e_lstT, e_slT, e_slL, e_ix0, e_ix1, e_ix2, e_il0, e_il1, e_il2, D.isNon, List.map_cons, List.map_nil, List.cons_append, List.nil_append, List.length_cons, List.length_nil, Nat.reduceAdd, Nat.reduceSub, List.replicate_succ, List.replicate_zero, List.set_cons_zero, List.set_cons_succ, List.getElem?_cons_zero, List.getElem?_cons_succ, Option.join_some, wipeE, if_true, if_false, reduceIte, Bool.false_eq_true, Bool.not_true, Bool.not_false]
      rw [e_bnd, e5]
      simp only [listRg]
      rw [if_pos (L2.RgOk.of_le (by omega) (by omega) (by omega) (by omega)), if_neg (by simp), show ((c : Int) + 1 - 1).toNat = c by omega, List.map_map]
      rfl
    rw [e_op, e_bnd, A]
    dsimp only
    rw [e_bnd, B]
    dsimp only
    rw [e_addL (by simp only [List.length_map, List.length_range]; omega)]
    congr 2
    rw [← signed_eq, List.map_append, List.map_map, List.map_map, List.map_map]
    rfl
  have g8 : ∃ S3, mCall tupleD [(mLc [16] (mSeq (mVar 7)) (gtN 16) (mTest (mIsN (mCall m__law_forced [(mVar 5), (mTup [(mUn negD (mVar 16))])]))) (mVar 16) resF)]
      [x0, x1, some (.ref n), x3, some (.int c), some (csT css), some (.lst (bss.map tT)), some (.lst ((lits c).map .int)), x8, x9, x10, x11, x12, x13, x14, x15, x16, x17] S2 = .ok (clT (sureL css c)) S3 ∧ Dk S3 n := by
    obtain ⟨S', e2', o⟩ := lcD_run (f := elD (wipeE [x0, x1, some (.ref n), x3, some (.int c), some (csT css), some (.lst (bss.map tT)), some (.lst ((lits c).map .int)), x8, x9, x10, x11, x12, x13, x14, x15, x16, x17] [16]) (gtN 16) (mTest (mIsN (mCall m__law_forced [(mVar 5), (mTup [(mUn negD (mVar 16))])]))) (mVar 16)) (I := fun S' => Dk S' n) (p := fun d => match d with | .int k => if decide (Bad css [-k]) = true then some (.int k) else none | _ => none) (ds := (lits c).map .int)
      (fun d hd S1 hS1 => by
        obtain ⟨k, hk, rfl⟩ := List.mem_map.mp hd
        obtain ⟨X, S2', e3', f, o2⟩ := law_forced_ok (S := S1) (css := css) (ns := [-k]) (hC.U (by simp)) hC.nd (by simp)
        refine ⟨S2', ?_, dk_keep hS1 o2⟩
        simp only [clT, List.map_cons, List.map_nil] at e3'
        rcases f with ⟨b, rfl⟩ | ⟨b, L, _, _, rfl⟩
        · simp only [e_fnRun, e_bnd, e_bndS, e_seq, e_if, e_ret, e_retN, e_set, e_expr, e_raise, e_nil, e_par, e_asg, e_sub, e_args0, e_args1, e_rt, e_some, e_var, e_k, e_call, e_un, e_op, e_test, e_boolD, e_bAnd, e_bOr, e_bNot, e_mAnd, e_mOr, e_mNot, e_mIf, e_chain, e_tup, e_lst, e_own, e_isN, e_notN, e_part, e_noPart, e_intD, e_sl, e_seqM, e_its, e_tupM, e_lstM, e_yes, e_el, e_gtN, e_gtNil, e_gtCons, e_gtTup, e_addI, e_subI, e_ltI, e_leI, e_gtI, e_geI, e_negI, e_lenT, e_lenL, e_tupT, e_tupL, e_lstT, e_slT, e_slL, e_ix0, e_ix1, e_ix2, e_il0, e_il1, e_il2, D.isNon, List.map_cons, List.map_nil, List.cons_append, List.nil_append, List.length_cons, List.length_nil, Nat.reduceAdd, Nat.reduceSub, List.replicate_succ, List.replicate_zero, List.set_cons_zero, List.set_cons_succ, List.getElem?_cons_zero, List.getElem?_cons_succ, Option.join_some, wipeE, if_true, if_false, reduceIte, Bool.false_eq_true, Bool.not_true, Bool.not_false, e3']
          rw [decide_eq_true b]
          rfl
        · simp only [e_fnRun, e_bnd, e_bndS, e_seq, e_if, e_ret, e_retN, e_set, e_expr, e_raise, e_nil, e_par, e_asg, e_sub, e_args0, e_args1, e_rt, e_some, e_var, e_k, e_call, e_un, e_op, e_test, e_boolD, e_bAnd, e_bOr, e_bNot, e_mAnd, e_mOr, e_mNot, e_mIf, e_chain, e_tup, e_lst, e_own, e_isN, e_notN, e_part, e_noPart, e_intD, e_sl, e_seqM, e_its, e_tupM, e_lstM, e_yes, e_el, e_gtN, e_gtNil, e_gtCons, e_gtTup, e_addI, e_subI, e_ltI, e_leI, e_gtI, e_geI, e_negI, e_lenT, e_lenL, e_tupT, e_tupL, e_lstT, e_slT, e_slL, e_ix0, e_ix1, e_ix2, e_il0, e_il1, e_il2, D.isNon, List.map_cons, List.map_nil, List.cons_append, List.nil_append, List.length_cons, List.length_nil, Nat.reduceAdd, Nat.reduceSub, List.replicate_succ, List.replicate_zero, List.set_cons_zero, List.set_cons_succ, List.getElem?_cons_zero, List.getElem?_cons_succ, Option.join_some, wipeE, if_true, if_false, reduceIte, Bool.false_eq_true, Bool.not_true, Bool.not_false, e3']
          rw [decide_eq_false b]
          rfl) (S := S2) h2
    have e3'' : ((lits c).map D.int).filterMap (fun d => match d with | .int k => if decide (Bad css [-k]) = true then some (.int k) else none | _ => none) = (sureL css c).map D.int := by
      rw [List.filterMap_map]
      exact filterMap_int (fun k => decide (Bad css [-k])) (lits c)
    rw [e3''] at e2'
    have h5 := lc_true (own := [16]) (mi := mSeq (mVar 7)) (f := gtN 16) (mt := mTest (mIsN (mCall m__law_forced [(mVar 5), (mTup [(mUn negD (mVar 16))])]))) (me := mVar 16) (g := fun S' => seqOf S' (.lst ((lits c).map .int)) = some (false, (lits c).map .int)) (S := S2) (by simp only [e_fnRun, e_bnd, e_bndS, e_seq, e_if, e_ret, e_retN, e_set, e_expr, e_raise, e_nil, e_par, e_asg, e_sub, e_args0, e_args1, e_rt, e_some, e_var, e_k, e_call, e_un, e_op, e_test, e_boolD, e_bAnd, e_bOr, e_bNot, e_mAnd, e_mOr, e_mNot, e_mIf, e_chain, e_tup, e_lst, e_own, e_isN, e_notN, e_part, e_noPart, e_intD, e_sl, e_seqM, e_its, e_tupM, e_lstM, e_yes, e_el, e_gtN, e_gtNil, e_gtCons, e_gtTup, e_addI, e_subI, e_ltI, e_leI, e_gtI, e_geI, e_negI, e_lenT, e_lenL, e_tupT, e_tupL, e_lstT, e_slT, e_slL, e_ix0, e_ix1, e_ix2, e_il0, e_il1, e_il2, D.isNon, List.map_cons, List.map_nil, List.cons_append, List.nil_append, List.length_cons, List.length_nil, Nat.reduceAdd, Nat.reduceSub, List.replicate_succ, List.replicate_zero, List.set_cons_zero, List.set_cons_succ, List.getElem?_cons_zero, List.getElem?_cons_succ, Option.join_some, wipeE, if_true, if_false, reduceIte, Bool.false_eq_true, Bool.not_true, Bool.not_false]) (fun _ => rfl) e2'
    exact ⟨S', by simp only [e_fnRun, e_bnd, e_bndS, e_seq, e_if, e_ret, e_retN, e_set, e_expr, e_raise, e_nil, e_par, e_asg, e_sub, e_args0, e_args1, e_rt, e_some, e_var, e_k, e_call, e_un, e_op, e_test, e_boolD, e_bAnd, e_bOr, e_bNot, e_mAnd, e_mOr, e_mNot, e_mIf, e_chain, e_tup, e_lst, e_own, e_isN, e_notN, e_part, e_noPart, e_intD, e_sl, e_seqM, e_its, e_tupM, e_lstM, e_yes, e_el, e_gtN, e_gtNil, e_gtCons, e_gtTup, e_addI, e_subI, e_ltI, e_leI, e_gtI, e_geI, e_negI, e_lenT, e_lenL, e_tupT, e_tupL, e_lstT, e_slT, e_slL, e_ix0, e_ix1, e_ix2, e_il0, e_il1, e_il2, D.isNon, List.map_cons, List.map_nil, List.cons_append, List.nil_append, List.length_cons, List.length_nil, Nat.reduceAdd, Nat.reduceSub, List.replicate_succ, List.replicate_zero, List.set_cons_zero, List.set_cons_succ, List.getElem?_cons_zero, List.getElem?_cons_succ, Option.join_some, wipeE, if_true, if_false, reduceIte, Bool.false_eq_true, Bool.not_true, Bool.not_false, h5], o⟩
  obtain ⟨S3, g8, h3⟩ := g8
  obtain ⟨S4, e4, o4⟩ := probes_ok (S := S3) hC
  have h4 := dk_keep h3 o4
  have ek : m__law_ask [.int 2, .lst [.int c, csT css]] S3 = .ok (.lst [clT (sureL css c)]) S4 := by
    rw [ask2, e4]
    rfl
  have sm : ∀ S, m__law_same 8 [.lst [clT (sureL css c)], .lst [clT (sureL css c)]] S = .ok (.bl true) S := fun S => by
    have hl : (sureL css c).length ≤ 1000 := by
      have h1 := List.length_filter_le (fun k => decide (Bad css [-k])) (lits c)
      have h2 := List.length_filter_le (fun k : Int => !decide (k = 0)) ((List.range (2 * c + 1)).map fun i : Nat => -(c : Int) + (i : Int))
      rw [List.length_map, List.length_range] at h2
      have h3 : (lits c).length ≤ 2 * c + 1 := h2
      have h4 : (sureL css c).length ≤ (lits c).length := h1
      omega
    refine same_lst (by simp) fun x hx => ?_
    simp at hx
    subst hx
    refine same_tup (by rw [List.length_map]; exact hl) fun y hy => ?_
    obtain ⟨k, _, rfl⟩ := List.mem_map.mp hy
    exact same_int k 5 S
  have tr : mLc [17] (mSeq (mVar 6)) (gtN 17) bYes (mCall allD [(mLc [16] (mSeq (mVar 8)) (gtN 16) bYes (mOp eqD (mOp ixD (mVar 17) (mOp subD (mCall absD [(mVar 16)]) (mK (.int 1)))) (mOp gtD (mVar 16) (mK (.int 0)))) resF)]) resF
      [x0, x1, some (.ref n), x3, some (.int c), some (csT css), some (.lst (bss.map tT)), some (.lst ((lits c).map .int)), some (clT (sureL css c)), x9, x10, x11, x12, x13, x14, x15, x16, x17] S4 = .ok (.lst ((bss.map tT).map fun _ => .bl true)) S4 ∧ allD [.lst ((bss.map tT).map fun _ => .bl true)] S4 = .ok (.bl true) S4 := by
    have in1 : ∀ k ∈ sureL css c, k ≠ 0 ∧ -(c : Int) ≤ k ∧ k ≤ c := fun k hk => mem_lits.mp (List.mem_filter.mp hk).1
    have x1 : mLc [17] (mSeq (mVar 6)) (gtN 17) bYes (mCall allD [(mLc [16] (mSeq (mVar 8)) (gtN 16) bYes (mOp eqD (mOp ixD (mVar 17) (mOp subD (mCall absD [(mVar 16)]) (mK (.int 1)))) (mOp gtD (mVar 16) (mK (.int 0)))) resF)]) resF
        [x0, x1, some (.ref n), x3, some (.int c), some (csT css), some (.lst (bss.map tT)), some (.lst ((lits c).map .int)), some (clT (sureL css c)), x9, x10, x11, x12, x13, x14, x15, x16, x17] S4 = .ok (.lst ((bss.map tT).map fun _ => .bl true)) S4 :=
      mLcL_map (by simp only [e_fnRun, e_bnd, e_bndS, e_seq, e_if, e_ret, e_retN, e_set, e_expr, e_raise, e_nil, e_par, e_asg, e_sub, e_args0, e_args1, e_rt, e_some, e_var, e_k, e_call, e_un, e_op, e_test, e_boolD, e_bAnd, e_bOr, e_bNot, e_mAnd, e_mOr, e_mNot, e_mIf, e_chain, e_tup, e_lst, e_own, e_isN, e_notN, e_part, e_noPart, e_intD, e_sl, e_seqM, e_its, e_tupM, e_lstM, e_yes, e_el, e_gtN, e_gtNil, e_gtCons, e_gtTup, e_addI, e_subI, e_ltI, e_leI, e_gtI, e_geI, e_negI, e_lenT, e_lenL, e_tupT, e_tupL, e_lstT, e_slT, e_slL, e_ix0, e_ix1, e_ix2, e_il0, e_il1, e_il2, D.isNon, List.map_cons, List.map_nil, List.cons_append, List.nil_append, List.length_cons, List.length_nil, Nat.reduceAdd, Nat.reduceSub, List.replicate_succ, List.replicate_zero, List.set_cons_zero, List.set_cons_succ, List.getElem?_cons_zero, List.getElem?_cons_succ, Option.join_some, wipeE, if_true, if_false, reduceIte, Bool.false_eq_true, Bool.not_true, Bool.not_false]) _ fun d hd => by
        obtain ⟨bs, hb, rfl⟩ := List.mem_map.mp hd
        obtain ⟨b1, b2⟩ := (hm bs).mp hb
        have x2 : mLc [16] (mSeq (mVar 8)) (gtN 16) bYes (mOp eqD (mOp ixD (mVar 17) (mOp subD (mCall absD [(mVar 16)]) (mK (.int 1)))) (mOp gtD (mVar 16) (mK (.int 0)))) resF
            [x0, x1, some (.ref n), x3, some (.int c), some (csT css), some (.lst (bss.map tT)), some (.lst ((lits c).map .int)), some (clT (sureL css c)), x9, x10, x11, x12, x13, x14, x15, x16, some (tT bs)] S4 = .ok (.lst ((sureL css c).map fun k => .bl (lit bs k))) S4 :=
          mLcT_ints (by simp only [e_fnRun, e_bnd, e_bndS, e_seq, e_if, e_ret, e_retN, e_set, e_expr, e_raise, e_nil, e_par, e_asg, e_sub, e_args0, e_args1, e_rt, e_some, e_var, e_k, e_call, e_un, e_op, e_test, e_boolD, e_bAnd, e_bOr, e_bNot, e_mAnd, e_mOr, e_mNot, e_mIf, e_chain, e_tup, e_lst, e_own, e_isN, e_notN, e_part, e_noPart, e_intD, e_sl, e_seqM, e_its, e_tupM, e_lstM, e_yes, e_el, e_gtN, e_gtNil, e_gtCons, e_gtTup, e_addI, e_subI, e_ltI, e_leI, e_gtI, e_geI, e_negI, e_lenT, e_lenL, e_tupT, e_tupL, e_lstT, e_slT, e_slL, e_ix0, e_ix1, e_ix2, e_il0, e_il1, e_il2, D.isNon, List.map_cons, List.map_nil, List.cons_append, List.nil_append, List.length_cons, List.length_nil, Nat.reduceAdd, Nat.reduceSub, List.replicate_succ, List.replicate_zero, List.set_cons_zero, List.set_cons_succ, List.getElem?_cons_zero, List.getElem?_cons_succ, Option.join_some, wipeE, if_true, if_false, reduceIte, Bool.false_eq_true, Bool.not_true, Bool.not_false]) _ fun k hk => by
            have ha := abs_in (in1 k hk)
            simp only [e_fnRun, e_bnd, e_bndS, e_seq, e_if, e_ret, e_retN, e_set, e_expr, e_raise, e_nil, e_par, e_asg, e_sub, e_args0, e_args1, e_rt, e_some, e_var, e_k, e_call, e_un, e_op, e_test, e_boolD, e_bAnd, e_bOr, e_bNot, e_mAnd, e_mOr, e_mNot, e_mIf, e_chain, e_tup, e_lst, e_own, e_isN, e_notN, e_part, e_noPart, e_intD, e_sl, e_seqM, e_its, e_tupM, e_lstM, e_yes, e_el, e_gtN, e_gtNil, e_gtCons, e_gtTup, e_addI, e_subI, e_ltI, e_leI, e_gtI, e_geI, e_negI, e_lenT, e_lenL, e_tupT, e_tupL, e_lstT, e_slT, e_slL, e_ix0, e_ix1, e_ix2, e_il0, e_il1, e_il2, D.isNon, List.map_cons, List.map_nil, List.cons_append, List.nil_append, List.length_cons, List.length_nil, Nat.reduceAdd, Nat.reduceSub, List.replicate_succ, List.replicate_zero, List.set_cons_zero, List.set_cons_succ, List.getElem?_cons_zero, List.getElem?_cons_succ, Option.join_some, wipeE, if_true, if_false, reduceIte, Bool.false_eq_true, Bool.not_true, Bool.not_false, absD_ok, lit_ix ha.1 (show absZ k ≤ bs.length by omega), eq_bl]
            rfl
        have x3 : (sureL css c).all (lit bs) = true := List.all_eq_true.mpr fun k hk => by
          have hb2 : Bad css [-k] := of_decide_eq_true (List.mem_filter.mp hk).2
          have i1 := in1 k hk
          cases q : lit bs k with
          | true => rfl
          | false =>
            have l1 := lit_pos i1.1 q
            exact absurd hb2 (bad_none hC (fun j hj => by simp at hj; subst hj; omega) b2 (by simp [l1]))
        simp only [e_fnRun, e_bnd, e_bndS, e_seq, e_if, e_ret, e_retN, e_set, e_expr, e_raise, e_nil, e_par, e_asg, e_sub, e_args0, e_args1, e_rt, e_some, e_var, e_k, e_call, e_un, e_op, e_test, e_boolD, e_bAnd, e_bOr, e_bNot, e_mAnd, e_mOr, e_mNot, e_mIf, e_chain, e_tup, e_lst, e_own, e_isN, e_notN, e_part, e_noPart, e_intD, e_sl, e_seqM, e_its, e_tupM, e_lstM, e_yes, e_el, e_gtN, e_gtNil, e_gtCons, e_gtTup, e_addI, e_subI, e_ltI, e_leI, e_gtI, e_geI, e_negI, e_lenT, e_lenL, e_tupT, e_tupL, e_lstT, e_slT, e_slL, e_ix0, e_ix1, e_ix2, e_il0, e_il1, e_il2, D.isNon, List.map_cons, List.map_nil, List.cons_append, List.nil_append, List.length_cons, List.length_nil, Nat.reduceAdd, Nat.reduceSub, List.replicate_succ, List.replicate_zero, List.set_cons_zero, List.set_cons_succ, List.getElem?_cons_zero, List.getElem?_cons_succ, Option.join_some, wipeE, if_true, if_false, reduceIte, Bool.false_eq_true, Bool.not_true, Bool.not_false, x2, all_map, x3]
    have x4 : allD [.lst ((bss.map tT).map fun _ => .bl true)] S4 = .ok (.bl true) S4 := by
      rw [all_map (fun _ : D => true)]
      congr 2
      rw [List.all_eq_true]
      exact fun _ _ => rfl
    exact ⟨x1, x4⟩
  obtain ⟨e5, S5, l5, y9, y10, y11, y12, y13, y14, rfl, h5⟩ := forD_inv (f := gtN 9) (m := agB) (ds := rangeD 0 6)
    (P := fun env S => ∃ y9 y10 y11 y12 y13 y14 : Option D, env = [x0, x1, some (.ref n), x3, some (.int c), some (csT css), some (.lst (bss.map tT)), some (.lst ((lits c).map .int)), some (clT (sureL css c)), y9, y10, y11, y12, y13, y14, x15, x16, x17] ∧ Dk S n)
    (fun d hd env S ⟨y9, y10, y11, y12, y13, y14, e, hS⟩ => by
      subst e
      obtain ⟨z10, z11, z12, z13, z14, S', e', h'⟩ := ag_ok (x0 := x0) (x1 := x1) (x3 := x3) (x7 := some (.lst ((lits c).map .int))) (x8 := some (clT (sureL css c))) (x9 := some d) (x10 := y10) (x11 := y11) (x12 := y12) (x13 := y13) (x14 := y14) (x15 := x15) (x16 := x16) (x17 := x17) hC hm hS
      exact ⟨_, _, S', rfl, e', some d, z10, z11, z12, z13, z14, rfl, h'⟩)
    (env := [x0, x1, some (.ref n), x3, some (.int c), some (csT css), some (.lst (bss.map tT)), some (.lst ((lits c).map .int)), some (clT (sureL css c)), x9, x10, x11, x12, x13, x14, x15, x16, x17]) (S := S4) ⟨x9, x10, x11, x12, x13, x14, rfl, h4⟩
  have rg6 : range1M [.int 6] S4 = .ok (rangeD 0 6, fun _ => True) S4 := rfl
  obtain ⟨y15, S6, e6, h6⟩ := fi_ok (x0 := x0) (x1 := x1) (x3 := x3) (x5 := some (csT css)) (x6 := some (.lst (bss.map tT))) (x7 := some (.lst ((lits c).map .int))) (x8 := some (clT (sureL css c))) (x9 := y9) (x10 := y10) (x11 := y11) (x12 := y12) (x13 := y13) (x14 := y14) (x15 := x15) (x16 := x16) (x17 := x17) (c := c) h5 c0
  refine ⟨some (.int c), some (csT css), some (.lst (bss.map tT)), some (.lst ((lits c).map .int)), some (clT (sureL css c)), y9, y10, y11, y12, y13, y14, y15, S6, ?_, h6⟩
  unfold tuB
  rw [e_seq, e_set, e_bndS, show mOp addD (mK (.int 1)) (mCall m__law_draw [(mVar 2), (mK (.int 8))]) [x0, x1, some (.ref n), x3, x4, x5, x6, x7, x8, x9, x10, x11, x12, x13, x14, x15, x16, x17] S = .ok (.int c) S1 from by simp only [e_fnRun, e_bnd, e_bndS, e_seq, e_if, e_ret, e_retN, e_set, e_expr, e_raise, e_nil, e_par, e_asg, e_sub, e_args0, e_args1, e_rt, e_some, e_var, e_k, e_call, e_un, e_op, e_test, e_boolD, e_bAnd, e_bOr, e_bNot, e_mAnd, e_mOr, e_mNot, e_mIf, e_chain, e_tup, e_lst, e_own, e_isN, e_notN, e_part, e_noPart, e_intD, e_sl, e_seqM, e_its, e_tupM, e_lstM, e_yes, e_el, e_gtN, e_gtNil, e_gtCons, e_gtTup, e_addI, e_subI, e_ltI, e_leI, e_gtI, e_geI, e_negI, e_lenT, e_lenL, e_tupT, e_tupL, e_lstT, e_slT, e_slL, e_ix0, e_ix1, e_ix2, e_il0, e_il1, e_il2, D.isNon, List.map_cons, List.map_nil, List.cons_append, List.nil_append, List.length_cons, List.length_nil, Nat.reduceAdd, Nat.reduceSub, List.replicate_succ, List.replicate_zero, List.set_cons_zero, List.set_cons_succ, List.getElem?_cons_zero, List.getElem?_cons_succ, Option.join_some, wipeE, if_true, if_false, reduceIte, Bool.false_eq_true, Bool.not_true, Bool.not_false, e1, hcn]]
  dsimp only
  simp only [List.set_cons_zero, List.set_cons_succ]
  rw [e_seq, e_set, e_bndS, show mCall m__law_clauses [(mVar 2), (mVar 4), (mK (.int 12))] [x0, x1, some (.ref n), x3, some (.int c), x5, x6, x7, x8, x9, x10, x11, x12, x13, x14, x15, x16, x17] S1 = .ok (csT css) S2 from by simp only [e_fnRun, e_bnd, e_bndS, e_seq, e_if, e_ret, e_retN, e_set, e_expr, e_raise, e_nil, e_par, e_asg, e_sub, e_args0, e_args1, e_rt, e_some, e_var, e_k, e_call, e_un, e_op, e_test, e_boolD, e_bAnd, e_bOr, e_bNot, e_mAnd, e_mOr, e_mNot, e_mIf, e_chain, e_tup, e_lst, e_own, e_isN, e_notN, e_part, e_noPart, e_intD, e_sl, e_seqM, e_its, e_tupM, e_lstM, e_yes, e_el, e_gtN, e_gtNil, e_gtCons, e_gtTup, e_addI, e_subI, e_ltI, e_leI, e_gtI, e_geI, e_negI, e_lenT, e_lenL, e_tupT, e_tupL, e_lstT, e_slT, e_slL, e_ix0, e_ix1, e_ix2, e_il0, e_il1, e_il2, D.isNon, List.map_cons, List.map_nil, List.cons_append, List.nil_append, List.length_cons, List.length_nil, Nat.reduceAdd, Nat.reduceSub, List.replicate_succ, List.replicate_zero, List.set_cons_zero, List.set_cons_succ, List.getElem?_cons_zero, List.getElem?_cons_succ, Option.join_some, wipeE, if_true, if_false, reduceIte, Bool.false_eq_true, Bool.not_true, Bool.not_false, e2]]
  dsimp only
  simp only [List.set_cons_zero, List.set_cons_succ]
  rw [e_seq, e_set, e_bndS, show mCall m__law_models [(mVar 4), (mVar 5)] [x0, x1, some (.ref n), x3, some (.int c), some (csT css), x6, x7, x8, x9, x10, x11, x12, x13, x14, x15, x16, x17] S2 = .ok (.lst (bss.map tT)) S2 from by simp only [e_fnRun, e_bnd, e_bndS, e_seq, e_if, e_ret, e_retN, e_set, e_expr, e_raise, e_nil, e_par, e_asg, e_sub, e_args0, e_args1, e_rt, e_some, e_var, e_k, e_call, e_un, e_op, e_test, e_boolD, e_bAnd, e_bOr, e_bNot, e_mAnd, e_mOr, e_mNot, e_mIf, e_chain, e_tup, e_lst, e_own, e_isN, e_notN, e_part, e_noPart, e_intD, e_sl, e_seqM, e_its, e_tupM, e_lstM, e_yes, e_el, e_gtN, e_gtNil, e_gtCons, e_gtTup, e_addI, e_subI, e_ltI, e_leI, e_gtI, e_geI, e_negI, e_lenT, e_lenL, e_tupT, e_tupL, e_lstT, e_slT, e_slL, e_ix0, e_ix1, e_ix2, e_il0, e_il1, e_il2, D.isNon, List.map_cons, List.map_nil, List.cons_append, List.nil_append, List.length_cons, List.length_nil, Nat.reduceAdd, Nat.reduceSub, List.replicate_succ, List.replicate_zero, List.set_cons_zero, List.set_cons_succ, List.getElem?_cons_zero, List.getElem?_cons_succ, Option.join_some, wipeE, if_true, if_false, reduceIte, Bool.false_eq_true, Bool.not_true, Bool.not_false, e3]]
  dsimp only
  simp only [List.set_cons_zero, List.set_cons_succ]
  rw [e_seq, e_set, e_bndS, g7]
  dsimp only
  simp only [List.set_cons_zero, List.set_cons_succ]
  rw [e_seq, e_set, e_bndS, g8]
  dsimp only
  simp only [List.set_cons_zero, List.set_cons_succ]
  rw [e_seq, e_if, e_bndS]
  simp only [e_fnRun, e_bnd, e_bndS, e_seq, e_if, e_ret, e_retN, e_set, e_expr, e_raise, e_nil, e_par, e_asg, e_sub, e_args0, e_args1, e_rt, e_some, e_var, e_k, e_call, e_un, e_op, e_test, e_boolD, e_bAnd, e_bOr, e_bNot, e_mAnd, e_mOr, e_mNot, e_mIf, e_chain, e_tup, e_lst, e_own, e_isN, e_notN, e_part, e_noPart, e_intD, e_sl, e_seqM, e_its, e_tupM, e_lstM, e_yes, e_el, e_gtN, e_gtNil, e_gtCons, e_gtTup, e_addI, e_subI, e_ltI, e_leI, e_gtI, e_geI, e_negI, e_lenT, e_lenL, e_tupT, e_tupL, e_lstT, e_slT, e_slL, e_ix0, e_ix1, e_ix2, e_il0, e_il1, e_il2, D.isNon, List.map_cons, List.map_nil, List.cons_append, List.nil_append, List.length_cons, List.length_nil, Nat.reduceAdd, Nat.reduceSub, List.replicate_succ, List.replicate_zero, List.set_cons_zero, List.set_cons_succ, List.getElem?_cons_zero, List.getElem?_cons_succ, Option.join_some, wipeE, if_true, if_false, reduceIte, Bool.false_eq_true, Bool.not_true, Bool.not_false, ek, sm, tr.1, tr.2, e_for, rg6]
  rw [l5]
  simp only [e_fnRun, e_bnd, e_bndS, e_seq, e_if, e_ret, e_retN, e_set, e_expr, e_raise, e_nil, e_par, e_asg, e_sub, e_args0, e_args1, e_rt, e_some, e_var, e_k, e_call, e_un, e_op, e_test, e_boolD, e_bAnd, e_bOr, e_bNot, e_mAnd, e_mOr, e_mNot, e_mIf, e_chain, e_tup, e_lst, e_own, e_isN, e_notN, e_part, e_noPart, e_intD, e_sl, e_seqM, e_its, e_tupM, e_lstM, e_yes, e_el, e_gtN, e_gtNil, e_gtCons, e_gtTup, e_addI, e_subI, e_ltI, e_leI, e_gtI, e_geI, e_negI, e_lenT, e_lenL, e_tupT, e_tupL, e_lstT, e_slT, e_slL, e_ix0, e_ix1, e_ix2, e_il0, e_il1, e_il2, D.isNon, List.map_cons, List.map_nil, List.cons_append, List.nil_append, List.length_cons, List.length_nil, Nat.reduceAdd, Nat.reduceSub, List.replicate_succ, List.replicate_zero, List.set_cons_zero, List.set_cons_succ, List.getElem?_cons_zero, List.getElem?_cons_succ, Option.join_some, wipeE, if_true, if_false, reduceIte, Bool.false_eq_true, Bool.not_true, Bool.not_false]
  exact e6
end
end K14

set_option Elab.async false
set_option maxRecDepth 100000
set_option linter.all false
set_option maxHeartbeats 4000000
namespace K14
open PySem hiding ret
open Mir
open Classical
theorem body_ok {x0 x2 x3 x4 x5 x6 x7 x8 x9 x10 x11 x12 x13 x14 x15 x16 x17 : Option D} {S : Store} (c : Int) : ∃ y2 y3 y4 y5 y6 y7 y8 y9 y10 y11 y12 y13 y14 y15 S', law_body [x0, some (.int c), x2, x3, x4, x5, x6, x7, x8, x9, x10, x11, x12, x13, x14, x15, x16, x17] S
    = .nx [x0, some (.int c), y2, y3, y4, y5, y6, y7, y8, y9, y10, y11, y12, y13, y14, y15, x16, x17] S' := by
  obtain ⟨S1, e1, h1⟩ := deck_ok c S
  obtain ⟨e5, S5, l5, y3, y4, y5, y6, y7, y8, y9, y10, y11, y12, y13, y14, y15, rfl, h5⟩ := forD_inv (f := gtN 3) (m := tuB) (ds := rangeD 0 2)
    (P := fun env Q => ∃ y3 y4 y5 y6 y7 y8 y9 y10 y11 y12 y13 y14 y15 : Option D, env = [x0, some (.int c), some (.ref S.length), y3, y4, y5, y6, y7, y8, y9, y10, y11, y12, y13, y14, y15, x16, x17] ∧ Dk Q S.length)
    (fun d hd env Q ⟨y3, y4, y5, y6, y7, y8, y9, y10, y11, y12, y13, y14, y15, e, hS⟩ => by
      subst e
      obtain ⟨z4, z5, z6, z7, z8, z9, z10, z11, z12, z13, z14, z15, S', e', h'⟩ := tu_ok (x0 := x0) (x1 := some (.int c)) (x3 := some d) (x4 := y4) (x5 := y5) (x6 := y6) (x7 := y7) (x8 := y8) (x9 := y9) (x10 := y10) (x11 := y11) (x12 := y12) (x13 := y13) (x14 := y14) (x15 := y15) (x16 := x16) (x17 := x17) hS
      exact ⟨_, _, S', rfl, e', some d, z4, z5, z6, z7, z8, z9, z10, z11, z12, z13, z14, z15, rfl, h'⟩)
    (env := [x0, some (.int c), some (.ref S.length), x3, x4, x5, x6, x7, x8, x9, x10, x11, x12, x13, x14, x15, x16, x17]) (S := S1) ⟨x3, x4, x5, x6, x7, x8, x9, x10, x11, x12, x13, x14, x15, rfl, h1⟩
  have rg : range1M [.int 2] S1 = .ok (rangeD 0 2, fun _ => True) S1 := rfl
  refine ⟨some (.ref S.length), y3, y4, y5, y6, y7, y8, y9, y10, y11, y12, y13, y14, y15, S5, ?_⟩
  rw [law_body_eq]
  unfold lawB
  simp only [e_fnRun, e_bnd, e_bndS, e_seq, e_if, e_ret, e_retN, e_set, e_expr, e_raise, e_nil, e_par, e_asg, e_sub, e_args0, e_args1, e_rt, e_some, e_var, e_k, e_call, e_un, e_op, e_test, e_boolD, e_bAnd, e_bOr, e_bNot, e_mAnd, e_mOr, e_mNot, e_mIf, e_chain, e_tup, e_lst, e_own, e_isN, e_notN, e_part, e_noPart, e_intD, e_sl, e_seqM, e_its, e_tupM, e_lstM, e_yes, e_el, e_gtN, e_gtNil, e_gtCons, e_gtTup, e_addI, e_subI, e_ltI, e_leI, e_gtI, e_geI, e_negI, e_lenT, e_lenL, e_tupT, e_tupL, e_lstT, e_slT, e_slL, e_ix0, e_ix1, e_ix2, e_il0, e_il1, e_il2, D.isNon, List.map_cons, List.map_nil, List.cons_append, List.nil_append, List.length_cons, List.length_nil, Nat.reduceAdd, Nat.reduceSub, List.replicate_succ, List.replicate_zero, List.set_cons_zero, List.set_cons_succ, List.getElem?_cons_zero, List.getElem?_cons_succ, Option.join_some, wipeE, if_true, if_false, reduceIte, Bool.false_eq_true, Bool.not_true, Bool.not_false, e1, e_for, rg]
  exact l5
theorem law_true : ∀ ns : List Int, ∃ S', sSeq (fun env S => forD (fun S' => True) (gtN 1) law_body (cellsD 7860419 ns) env S) law_rest (List.replicate 18 none) [] = .rt (.bl true) S' := fun ns => by
  obtain ⟨e, S', e1, _⟩ := forD_inv (f := gtN 1) (m := law_body) (ds := cellsD 7860419 ns)
    (P := fun env S => ∃ x0 x1 x2 x3 x4 x5 x6 x7 x8 x9 x10 x11 x12 x13 x14 x15 x16 x17 : Option D, env = [x0, x1, x2, x3, x4, x5, x6, x7, x8, x9, x10, x11, x12, x13, x14, x15, x16, x17])
    (fun d hd env S ⟨x0, x1, x2, x3, x4, x5, x6, x7, x8, x9, x10, x11, x12, x13, x14, x15, x16, x17, e⟩ => by
      subst e
      obtain ⟨c, _, rfl⟩ := List.mem_map.mp hd
      obtain ⟨y2, y3, y4, y5, y6, y7, y8, y9, y10, y11, y12, y13, y14, y15, S', e'⟩ := body_ok (x0 := x0) (x2 := x2) (x3 := x3) (x4 := x4) (x5 := x5) (x6 := x6) (x7 := x7) (x8 := x8) (x9 := x9) (x10 := x10) (x11 := x11) (x12 := x12) (x13 := x13) (x14 := x14) (x15 := x15) (x16 := x16) (x17 := x17) (S := S) c
      exact ⟨_, _, S', rfl, e', _, _, _, _, _, _, _, _, _, _, _, _, _, _, _, _, _, _, rfl⟩)
    (env := List.replicate 18 none) (S := []) ⟨none, none, none, none, none, none, none, none, none, none, none, none, none, none, none, none, none, none, rfl⟩
  refine ⟨S', ?_⟩
  rw [e_seq, e1]
  rfl
end K14

set_option Elab.async false
set_option maxRecDepth 100000
set_option linter.all false
namespace K14
open PySem PySem.Spec PyProof.Rows L2 Mir

def ClsTab (c0 : Addr) (c1 : Addr) (c2 : Addr) : Nat → Addr
  | 0 => c0
  | 1 => c1
  | _ => c2
theorem all_mk {l : PySem.W.OpenLaw} {w : World} {K : PySem.W.Frag} {h : Heap} {mg : Str → Option Value} {fa : Addr} (X : K.In h) (G : h.Ns mainGlobals mg) (hfa : mg "law" = some (.ref fa))
    {f0 f1 f2 f3 f4 f5 f6 f7 f8 f9 f10 f11 f12 f13 f14 f15 f16 f17 f18 f19 f20 f21 f22 f23 f24 f25 f26 f27 f28 f29 c0 c1 c2 : Addr}
    {od0 an0 od1 an1 od2 an2 od3 an3 od4 an4 od5 an5 od6 an6 od7 an7 od8 an8 od9 an9 od10 an10 od11 an11 od12 an12 od13 an13 od14 an14 od15 an15 od16 an16 od17 an17 od18 an18 od19 an19 od20 an20 od21 an21 od22 an22 od23 an23 od24 an24 od25 an25 od26 an26 od27 an27 od28 an28 od29 an29 : Option Addr} {sl0 sl1 sl2 sl3 sl4 sl5 sl6 sl7 sl8 sl9 sl10 sl11 sl12 sl13 sl14 sl15 sl16 sl17 sl18 sl19 sl20 sl21 sl22 sl23 sl24 sl25 sl26 sl27 sl28 sl29 : Array (Option Value)} {oc0 kV0 dc0 pm0 cd0 ct0 oc1 kV1 dc1 pm1 cd1 ct1 oc2 kV2 dc2 pm2 cd2 ct2 oc3 kV3 dc3 pm3 cd3 ct3 oc4 kV4 dc4 pm4 cd4 ct4 oc5 kV5 dc5 pm5 cd5 ct5 oc6 kV6 dc6 pm6 cd6 ct6 oc7 kV7 dc7 pm7 cd7 ct7 oc8 kV8 dc8 pm8 cd8 ct8 oc9 kV9 dc9 pm9 cd9 ct9 oc10 kV10 dc10 pm10 cd10 ct10 oc11 kV11 dc11 pm11 cd11 ct11 oc12 kV12 dc12 pm12 cd12 ct12 oc13 kV13 dc13 pm13 cd13 ct13 oc14 kV14 dc14 pm14 cd14 ct14 oc15 kV15 dc15 pm15 cd15 ct15 oc16 kV16 dc16 pm16 cd16 ct16 oc17 kV17 dc17 pm17 cd17 ct17 oc18 kV18 dc18 pm18 cd18 ct18 oc19 kV19 dc19 pm19 cd19 ct19 oc20 kV20 dc20 pm20 cd20 ct20 oc21 kV21 dc21 pm21 cd21 ct21 oc22 kV22 dc22 pm22 cd22 ct22 oc23 kV23 dc23 pm23 cd23 ct23 oc24 kV24 dc24 pm24 cd24 ct24 oc25 kV25 dc25 pm25 cd25 ct25 oc26 kV26 dc26 pm26 cd26 ct26 oc27 kV27 dc27 pm27 cd27 ct27 oc28 kV28 dc28 pm28 cd28 ct28 oc29 kV29 dc29 pm29 cd29 ct29 : Value}
    (a0 : PySem.W.nsIn K mainGlobals "is_integer" = some (some (.ref f0))) (l0 : K.lookup f0 = some ⟨oc0, od0, .func (PySem.W.fnOf "is_integer" "is_integer" (defArgs (top 6)) (defBody (top 6)) (defScope (top 6)) .none kV0 dc0 pm0 an0 cd0 ct0), sl0⟩) (q0 : PySem.W.codeIn K cd0 "is_integer" = true) (k0 : PySem.W.keepIn K (.ref f0) = true)
    (a1 : PySem.W.nsIn K mainGlobals "ascends" = some (some (.ref f1))) (l1 : K.lookup f1 = some ⟨oc1, od1, .func (PySem.W.fnOf "ascends" "ascends" (defArgs (top 7)) (defBody (top 7)) (defScope (top 7)) .none kV1 dc1 pm1 an1 cd1 ct1), sl1⟩) (q1 : PySem.W.codeIn K cd1 "ascends" = true) (k1 : PySem.W.keepIn K (.ref f1) = true)
    (a2 : PySem.W.nsIn K mainGlobals "check_count" = some (some (.ref f2))) (l2 : K.lookup f2 = some ⟨oc2, od2, .func (PySem.W.fnOf "check_count" "check_count" (defArgs (top 9)) (defBody (top 9)) (defScope (top 9)) .none kV2 dc2 pm2 an2 cd2 ct2), sl2⟩) (q2 : PySem.W.codeIn K cd2 "check_count" = true) (k2 : PySem.W.keepIn K (.ref f2) = true)
    (a3 : PySem.W.nsIn K mainGlobals "is_integer_clause" = some (some (.ref f3))) (l3 : K.lookup f3 = some ⟨oc3, od3, .func (PySem.W.fnOf "is_integer_clause" "is_integer_clause" (defArgs (top 11)) (defBody (top 11)) (defScope (top 11)) .none kV3 dc3 pm3 an3 cd3 ct3), sl3⟩) (q3 : PySem.W.codeIn K cd3 "is_integer_clause" = true) (k3 : PySem.W.keepIn K (.ref f3) = true)
    (a4 : PySem.W.nsIn K mainGlobals "check_clauses" = some (some (.ref f4))) (l4 : K.lookup f4 = some ⟨oc4, od4, .func (PySem.W.fnOf "check_clauses" "check_clauses" (defArgs (top 13)) (defBody (top 13)) (defScope (top 13)) .none kV4 dc4 pm4 an4 cd4 ct4), sl4⟩) (q4 : PySem.W.codeIn K cd4 "check_clauses" = true) (k4 : PySem.W.keepIn K (.ref f4) = true)
    (a5 : PySem.W.nsIn K mainGlobals "check_literals" = some (some (.ref f5))) (l5 : K.lookup f5 = some ⟨oc5, od5, .func (PySem.W.fnOf "check_literals" "check_literals" (defArgs (top 15)) (defBody (top 15)) (defScope (top 15)) .none kV5 dc5 pm5 an5 cd5 ct5), sl5⟩) (q5 : PySem.W.codeIn K cd5 "check_literals" = true) (k5 : PySem.W.keepIn K (.ref f5) = true)
    (a6 : PySem.W.nsIn K mainGlobals "forced_once" = some (some (.ref f6))) (l6 : K.lookup f6 = some ⟨oc6, od6, .func (PySem.W.fnOf "forced_once" "forced_once" (defArgs (top 16)) (defBody (top 16)) (defScope (top 16)) .none kV6 dc6 pm6 an6 cd6 ct6), sl6⟩) (q6 : PySem.W.codeIn K cd6 "forced_once" = true) (k6 : PySem.W.keepIn K (.ref f6) = true)
    (a7 : PySem.W.nsIn K mainGlobals "closed" = some (some (.ref f7))) (l7 : K.lookup f7 = some ⟨oc7, od7, .func (PySem.W.fnOf "closed" "closed" (defArgs (top 17)) (defBody (top 17)) (defScope (top 17)) .none kV7 dc7 pm7 an7 cd7 ct7), sl7⟩) (q7 : PySem.W.codeIn K cd7 "closed" = true) (k7 : PySem.W.keepIn K (.ref f7) = true)
    (a8 : PySem.W.nsIn K mainGlobals "forced" = some (some (.ref f8))) (l8 : K.lookup f8 = some ⟨oc8, od8, .func (PySem.W.fnOf "forced" "forced" (defArgs (top 18)) (defBody (top 18)) (defScope (top 18)) .none kV8 dc8 pm8 an8 cd8 ct8), sl8⟩) (q8 : PySem.W.codeIn K cd8 "forced" = true) (k8 : PySem.W.keepIn K (.ref f8) = true)
    (a9 : PySem.W.nsIn K mainGlobals "probes" = some (some (.ref f9))) (l9 : K.lookup f9 = some ⟨oc9, od9, .func (PySem.W.fnOf "probes" "probes" (defArgs (top 19)) (defBody (top 19)) (defScope (top 19)) .none kV9 dc9 pm9 an9 cd9 ct9), sl9⟩) (q9 : PySem.W.codeIn K cd9 "probes" = true) (k9 : PySem.W.keepIn K (.ref f9) = true)
    (a10 : PySem.W.nsIn K mainGlobals "is_settled" = some (some (.ref f10))) (l10 : K.lookup f10 = some ⟨oc10, od10, .func (PySem.W.fnOf "is_settled" "is_settled" (defArgs (top 20)) (defBody (top 20)) (defScope (top 20)) .none kV10 dc10 pm10 an10 cd10 ct10), sl10⟩) (q10 : PySem.W.codeIn K cd10 "is_settled" = true) (k10 : PySem.W.keepIn K (.ref f10) = true)
    (a11 : PySem.W.nsIn K mainGlobals "_law_deck" = some (some (.ref f11))) (l11 : K.lookup f11 = some ⟨oc11, od11, .func (PySem.W.fnOf "_law_deck" "_law_deck" (defArgs (top 22)) (defBody (top 22)) (defScope (top 22)) .none kV11 dc11 pm11 an11 cd11 ct11), sl11⟩) (q11 : PySem.W.codeIn K cd11 "_law_deck" = true) (k11 : PySem.W.keepIn K (.ref f11) = true)
    (a12 : PySem.W.nsIn K mainGlobals "_law_draw" = some (some (.ref f12))) (l12 : K.lookup f12 = some ⟨oc12, od12, .func (PySem.W.fnOf "_law_draw" "_law_draw" (defArgs (top 23)) (defBody (top 23)) (defScope (top 23)) .none kV12 dc12 pm12 an12 cd12 ct12), sl12⟩) (q12 : PySem.W.codeIn K cd12 "_law_draw" = true) (k12 : PySem.W.keepIn K (.ref f12) = true)
    (a13 : PySem.W.nsIn K mainGlobals "_law_pick" = some (some (.ref f13))) (l13 : K.lookup f13 = some ⟨oc13, od13, .func (PySem.W.fnOf "_law_pick" "_law_pick" (defArgs (top 24)) (defBody (top 24)) (defScope (top 24)) .none kV13 dc13 pm13 an13 cd13 ct13), sl13⟩) (q13 : PySem.W.codeIn K cd13 "_law_pick" = true) (k13 : PySem.W.keepIn K (.ref f13) = true)
    (a14 : PySem.W.nsIn K mainGlobals "_law_same" = some (some (.ref f14))) (l14 : K.lookup f14 = some ⟨oc14, od14, .func (PySem.W.fnOf "_law_same" "_law_same" (defArgs (top 25)) (defBody (top 25)) (defScope (top 25)) .none kV14 dc14 pm14 an14 cd14 ct14), sl14⟩) (q14 : PySem.W.codeIn K cd14 "_law_same" = true) (k14 : PySem.W.keepIn K (.ref f14) = true)
    (a15 : PySem.W.nsIn K mainGlobals "_law_int" = some (some (.ref f15))) (l15 : K.lookup f15 = some ⟨oc15, od15, .func (PySem.W.fnOf "_law_int" "_law_int" (defArgs (top 26)) (defBody (top 26)) (defScope (top 26)) .none kV15 dc15 pm15 an15 cd15 ct15), sl15⟩) (q15 : PySem.W.codeIn K cd15 "_law_int" = true) (k15 : PySem.W.keepIn K (.ref f15) = true)
    (a16 : PySem.W.nsIn K mainGlobals "_law_bent" = some (some (.ref f16))) (l16 : K.lookup f16 = some ⟨oc16, od16, .func (PySem.W.fnOf "_law_bent" "_law_bent" (defArgs (top 27)) (defBody (top 27)) (defScope (top 27)) .none kV16 dc16 pm16 an16 cd16 ct16), sl16⟩) (q16 : PySem.W.codeIn K cd16 "_law_bent" = true) (k16 : PySem.W.keepIn K (.ref f16) = true)
    (a17 : PySem.W.nsIn K mainGlobals "_law_order" = some (some (.ref f17))) (l17 : K.lookup f17 = some ⟨oc17, od17, .func (PySem.W.fnOf "_law_order" "_law_order" (defArgs (top 28)) (defBody (top 28)) (defScope (top 28)) .none kV17 dc17 pm17 an17 cd17 ct17), sl17⟩) (q17 : PySem.W.codeIn K cd17 "_law_order" = true) (k17 : PySem.W.keepIn K (.ref f17) = true)
    (a18 : PySem.W.nsIn K mainGlobals "_law_is_clause" = some (some (.ref f18))) (l18 : K.lookup f18 = some ⟨oc18, od18, .func (PySem.W.fnOf "_law_is_clause" "_law_is_clause" (defArgs (top 29)) (defBody (top 29)) (defScope (top 29)) .none kV18 dc18 pm18 an18 cd18 ct18), sl18⟩) (q18 : PySem.W.codeIn K cd18 "_law_is_clause" = true) (k18 : PySem.W.keepIn K (.ref f18) = true)
    (a19 : PySem.W.nsIn K mainGlobals "_law_some_clause" = some (some (.ref f19))) (l19 : K.lookup f19 = some ⟨oc19, od19, .func (PySem.W.fnOf "_law_some_clause" "_law_some_clause" (defArgs (top 30)) (defBody (top 30)) (defScope (top 30)) .none kV19 dc19 pm19 an19 cd19 ct19), sl19⟩) (q19 : PySem.W.codeIn K cd19 "_law_some_clause" = true) (k19 : PySem.W.keepIn K (.ref f19) = true)
    (a20 : PySem.W.nsIn K mainGlobals "_law_clauses" = some (some (.ref f20))) (l20 : K.lookup f20 = some ⟨oc20, od20, .func (PySem.W.fnOf "_law_clauses" "_law_clauses" (defArgs (top 31)) (defBody (top 31)) (defScope (top 31)) .none kV20 dc20 pm20 an20 cd20 ct20), sl20⟩) (q20 : PySem.W.codeIn K cd20 "_law_clauses" = true) (k20 : PySem.W.keepIn K (.ref f20) = true)
    (a21 : PySem.W.nsIn K mainGlobals "_law_all_truths" = some (some (.ref f21))) (l21 : K.lookup f21 = some ⟨oc21, od21, .func (PySem.W.fnOf "_law_all_truths" "_law_all_truths" (defArgs (top 32)) (defBody (top 32)) (defScope (top 32)) .none kV21 dc21 pm21 an21 cd21 ct21), sl21⟩) (q21 : PySem.W.codeIn K cd21 "_law_all_truths" = true) (k21 : PySem.W.keepIn K (.ref f21) = true)
    (a22 : PySem.W.nsIn K mainGlobals "_law_hold_all" = some (some (.ref f22))) (l22 : K.lookup f22 = some ⟨oc22, od22, .func (PySem.W.fnOf "_law_hold_all" "_law_hold_all" (defArgs (top 33)) (defBody (top 33)) (defScope (top 33)) .none kV22 dc22 pm22 an22 cd22 ct22), sl22⟩) (q22 : PySem.W.codeIn K cd22 "_law_hold_all" = true) (k22 : PySem.W.keepIn K (.ref f22) = true)
    (a23 : PySem.W.nsIn K mainGlobals "_law_models" = some (some (.ref f23))) (l23 : K.lookup f23 = some ⟨oc23, od23, .func (PySem.W.fnOf "_law_models" "_law_models" (defArgs (top 34)) (defBody (top 34)) (defScope (top 34)) .none kV23 dc23 pm23 an23 cd23 ct23), sl23⟩) (q23 : PySem.W.codeIn K cd23 "_law_models" = true) (k23 : PySem.W.keepIn K (.ref f23) = true)
    (a24 : PySem.W.nsIn K mainGlobals "_law_no_clauses" = some (some (.ref f24))) (l24 : K.lookup f24 = some ⟨oc24, od24, .func (PySem.W.fnOf "_law_no_clauses" "_law_no_clauses" (defArgs (top 35)) (defBody (top 35)) (defScope (top 35)) .none kV24 dc24 pm24 an24 cd24 ct24), sl24⟩) (q24 : PySem.W.codeIn K cd24 "_law_no_clauses" = true) (k24 : PySem.W.keepIn K (.ref f24) = true)
    (a25 : PySem.W.nsIn K mainGlobals "_law_ask" = some (some (.ref f25))) (l25 : K.lookup f25 = some ⟨oc25, od25, .func (PySem.W.fnOf "_law_ask" "_law_ask" (defArgs (top 36)) (defBody (top 36)) (defScope (top 36)) .none kV25 dc25 pm25 an25 cd25 ct25), sl25⟩) (q25 : PySem.W.codeIn K cd25 "_law_ask" = true) (k25 : PySem.W.keepIn K (.ref f25) = true)
    (a26 : PySem.W.nsIn K mainGlobals "_law_forced" = some (some (.ref f26))) (l26 : K.lookup f26 = some ⟨oc26, od26, .func (PySem.W.fnOf "_law_forced" "_law_forced" (defArgs (top 37)) (defBody (top 37)) (defScope (top 37)) .none kV26 dc26 pm26 an26 cd26 ct26), sl26⟩) (q26 : PySem.W.codeIn K cd26 "_law_forced" = true) (k26 : PySem.W.keepIn K (.ref f26) = true)
    (a27 : PySem.W.nsIn K mainGlobals "_law_due" = some (some (.ref f27))) (l27 : K.lookup f27 = some ⟨oc27, od27, .func (PySem.W.fnOf "_law_due" "_law_due" (defArgs (top 38)) (defBody (top 38)) (defScope (top 38)) .none kV27 dc27 pm27 an27 cd27 ct27), sl27⟩) (q27 : PySem.W.codeIn K cd27 "_law_due" = true) (k27 : PySem.W.keepIn K (.ref f27) = true)
    (a28 : PySem.W.nsIn K mainGlobals "_law_facts_right" = some (some (.ref f28))) (l28 : K.lookup f28 = some ⟨oc28, od28, .func (PySem.W.fnOf "_law_facts_right" "_law_facts_right" (defArgs (top 39)) (defBody (top 39)) (defScope (top 39)) .none kV28 dc28 pm28 an28 cd28 ct28), sl28⟩) (q28 : PySem.W.codeIn K cd28 "_law_facts_right" = true) (k28 : PySem.W.keepIn K (.ref f28) = true)
    (a29 : PySem.W.nsIn K mainGlobals "law" = some (some (.ref f29))) (l29 : K.lookup f29 = some ⟨oc29, od29, .func (PySem.W.fnOf "law" "law" (defArgs (top 40)) (defBody (top 40)) (defScope (top 40)) .none kV29 dc29 pm29 an29 cd29 ct29), sl29⟩) (q29 : PySem.W.codeIn K cd29 "law" = true) (k29 : PySem.W.keepIn K (.ref f29) = true)
    (xa0 : PySem.W.nsIn K mainGlobals "InvalidNumber" = some (some (.ref c0))) (xe0 : PySem.W.excIn K c0 [.type "ValueError", .type "Exception", .type "BaseException", .type "object"] "ValueError.__new__" = true) (xk0 : PySem.W.keepIn K (.ref c0) = true) (xs0 : PySem.W.subIn K (.ref c0) (.type "BaseException") = some true) (xt0 : PySem.W.typeIn K (.ref c0) = some (.type "type")) (xi0 : PySem.W.isClsIn K c0 = true)
    (xa1 : PySem.W.nsIn K mainGlobals "InvalidClauses" = some (some (.ref c1))) (xe1 : PySem.W.excIn K c1 [.type "ValueError", .type "Exception", .type "BaseException", .type "object"] "ValueError.__new__" = true) (xk1 : PySem.W.keepIn K (.ref c1) = true) (xs1 : PySem.W.subIn K (.ref c1) (.type "BaseException") = some true) (xt1 : PySem.W.typeIn K (.ref c1) = some (.type "type")) (xi1 : PySem.W.isClsIn K c1 = true)
    (xa2 : PySem.W.nsIn K mainGlobals "InvalidLiterals" = some (some (.ref c2))) (xe2 : PySem.W.excIn K c2 [.type "ValueError", .type "Exception", .type "BaseException", .type "object"] "ValueError.__new__" = true) (xk2 : PySem.W.keepIn K (.ref c2) = true) (xs2 : PySem.W.subIn K (.ref c2) (.type "BaseException") = some true) (xt2 : PySem.W.typeIn K (.ref c2) = some (.type "type")) (xi2 : PySem.W.isClsIn K c2 = true)
    (m0_0 : PySem.W.subIn K (.ref c0) (.ref c0) = some true)
    (m0_1 : PySem.W.subIn K (.ref c0) (.ref c1) = some false)
    (m0_2 : PySem.W.subIn K (.ref c0) (.ref c2) = some false)
    (m1_0 : PySem.W.subIn K (.ref c1) (.ref c0) = some false)
    (m1_1 : PySem.W.subIn K (.ref c1) (.ref c1) = some true)
    (m1_2 : PySem.W.subIn K (.ref c1) (.ref c2) = some false)
    (m2_0 : PySem.W.subIn K (.ref c2) (.ref c0) = some false)
    (m2_1 : PySem.W.subIn K (.ref c2) (.ref c1) = some false)
    (m2_2 : PySem.W.subIn K (.ref c2) (.ref c2) = some true)
    (z_abs : PySem.W.nsIn K mainGlobals "abs" = some none)
    (z_all : PySem.W.nsIn K mainGlobals "all" = some none)
    (z_any : PySem.W.nsIn K mainGlobals "any" = some none)
    (z_bool : PySem.W.nsIn K mainGlobals "bool" = some none)
    (z_int : PySem.W.nsIn K mainGlobals "int" = some none)
    (z_isinstance : PySem.W.nsIn K mainGlobals "isinstance" = some none)
    (z_len : PySem.W.nsIn K mainGlobals "len" = some none)
    (z_list : PySem.W.nsIn K mainGlobals "list" = some none)
    (z_max : PySem.W.nsIn K mainGlobals "max" = some none)
    (z_min : PySem.W.nsIn K mainGlobals "min" = some none)
    (z_range : PySem.W.nsIn K mainGlobals "range" = some none)
    (z_set : PySem.W.nsIn K mainGlobals "set" = some none)
    (z_sorted : PySem.W.nsIn K mainGlobals "sorted" = some none)
    (z_str : PySem.W.nsIn K mainGlobals "str" = some none)
    (z_tuple : PySem.W.nsIn K mainGlobals "tuple" = some none) :
    ∃ fd : FuncData, (∀ (s : Shared) (v : Value), BindsTo s fd ⟨[v], []⟩ [("script", v)]) ∧ ∀ base : Heap, K.In base → base.Ns mainGlobals mg → FnOk l.prog w K mg base (L2.CX l.prog w) 10 fa fd ["script"] (spLaw K) := by
  have e := hfa.symm.trans (PySem.W.mg_of X G a29)
  cases e
  have hx : ∀ c k, c < 3 → k < 3 → PySem.W.exmOne K (.ref (ClsTab c0 c1 c2 c)) (.ref (ClsTab c0 c1 c2 k)) = some (decide (c = k)) := fun c k hc hk => by
    match c, k, hc, hk with
    | 0, 0, _, _ => exact exm_mk xs0 xi0 xt0 m0_0
    | 0, 1, _, _ => exact exm_mk xs1 xi1 xt1 m0_1
    | 0, 2, _, _ => exact exm_mk xs2 xi2 xt2 m0_2
    | 1, 0, _, _ => exact exm_mk xs0 xi0 xt0 m1_0
    | 1, 1, _, _ => exact exm_mk xs1 xi1 xt1 m1_1
    | 1, 2, _, _ => exact exm_mk xs2 xi2 xt2 m1_2
    | 2, 0, _, _ => exact exm_mk xs0 xi0 xt0 m2_0
    | 2, 1, _, _ => exact exm_mk xs1 xi1 xt1 m2_1
    | 2, 2, _, _ => exact exm_mk xs2 xi2 xt2 m2_2
    | n + 3, _, h, _ => omega
    | _, n + 3, _, h => omega
  have T : Txt K mg (ClsTab c0 c1 c2) := ⟨PySem.W.mg_none_of X G z_abs, PySem.W.mg_none_of X G z_all, PySem.W.mg_none_of X G z_any, PySem.W.mg_none_of X G z_bool, PySem.W.mg_none_of X G z_int, PySem.W.mg_none_of X G z_isinstance, PySem.W.mg_none_of X G z_len, PySem.W.mg_none_of X G z_list, PySem.W.mg_none_of X G z_max, PySem.W.mg_none_of X G z_min, PySem.W.mg_none_of X G z_range, PySem.W.mg_none_of X G z_set, PySem.W.mg_none_of X G z_sorted, PySem.W.mg_none_of X G z_str, PySem.W.mg_none_of X G z_tuple, ⟨PySem.W.mg_of X G xa0, xe0, xk0, xs0, xt0⟩, ⟨PySem.W.mg_of X G xa1, xe1, xk1, xs1, xt1⟩, ⟨PySem.W.mg_of X G xa2, xe2, xk2, xs2, xt2⟩, hx⟩
  have F0 := fun_mk (st := top 6) l0 q0 k0
  have F1 := fun_mk (st := top 7) l1 q1 k1
  have F2 := fun_mk (st := top 9) l2 q2 k2
  have F3 := fun_mk (st := top 11) l3 q3 k3
  have F4 := fun_mk (st := top 13) l4 q4 k4
  have F5 := fun_mk (st := top 15) l5 q5 k5
  have F6 := fun_mk (st := top 16) l6 q6 k6
  have F7 := fun_mk (st := top 17) l7 q7 k7
  have F8 := fun_mk (st := top 18) l8 q8 k8
  have F9 := fun_mk (st := top 19) l9 q9 k9
  have F10 := fun_mk (st := top 20) l10 q10 k10
  have F11 := fun_mk (st := top 22) l11 q11 k11
  have F12 := fun_mk (st := top 23) l12 q12 k12
  have F13 := fun_mk (st := top 24) l13 q13 k13
  have F14 := fun_mk (st := top 25) l14 q14 k14
  have F15 := fun_mk (st := top 26) l15 q15 k15
  have F16 := fun_mk (st := top 27) l16 q16 k16
  have F17 := fun_mk (st := top 28) l17 q17 k17
  have F18 := fun_mk (st := top 29) l18 q18 k18
  have F19 := fun_mk (st := top 30) l19 q19 k19
  have F20 := fun_mk (st := top 31) l20 q20 k20
  have F21 := fun_mk (st := top 32) l21 q21 k21
  have F22 := fun_mk (st := top 33) l22 q22 k22
  have F23 := fun_mk (st := top 34) l23 q23 k23
  have F24 := fun_mk (st := top 35) l24 q24 k24
  have F25 := fun_mk (st := top 36) l25 q25 k25
  have F26 := fun_mk (st := top 37) l26 q26 k26
  have F27 := fun_mk (st := top 38) l27 q27 k27
  have F28 := fun_mk (st := top 39) l28 q28 k28
  have F29 := fun_mk (st := top 40) l29 q29 k29
  refine ⟨PySem.W.fnOf "law" "law" (defArgs (top 40)) (defBody (top 40)) (defScope (top 40)) .none kV29 dc29 pm29 an29 cd29 ct29, fun s v => .of_eq rfl, fun base _ _ => ?_⟩
  have H0 := ok_is_integer (P := l.prog) (w := w) (base := base) F0 (PySem.W.mg_of X G a0) T 
  have H1 := ok_ascends (P := l.prog) (w := w) (base := base) F1 (PySem.W.mg_of X G a1) T 
  have H2 := ok_check_count (P := l.prog) (w := w) (base := base) F2 (PySem.W.mg_of X G a2) T H0
  have H3 := ok_is_integer_clause (P := l.prog) (w := w) (base := base) F3 (PySem.W.mg_of X G a3) T H0 H1
  have H4 := ok_check_clauses (P := l.prog) (w := w) (base := base) F4 (PySem.W.mg_of X G a4) T H2 H3
  have H5 := ok_check_literals (P := l.prog) (w := w) (base := base) F5 (PySem.W.mg_of X G a5) T H3
  have H6 := ok_forced_once (P := l.prog) (w := w) (base := base) F6 (PySem.W.mg_of X G a6) T 
  have H7 := ok_closed (P := l.prog) (w := w) (base := base) F7 (PySem.W.mg_of X G a7) T H6
  have H8 := ok_forced (P := l.prog) (w := w) (base := base) F8 (PySem.W.mg_of X G a8) T H4 H5 H7
  have H9 := ok_probes (P := l.prog) (w := w) (base := base) F9 (PySem.W.mg_of X G a9) T H4 H7
  have H10 := ok_is_settled (P := l.prog) (w := w) (base := base) F10 (PySem.W.mg_of X G a10) T H4 H5 H7
  have H11 := ok__law_deck (P := l.prog) (w := w) (base := base) F11 (PySem.W.mg_of X G a11) T 
  have H12 := ok__law_draw (P := l.prog) (w := w) (base := base) F12 (PySem.W.mg_of X G a12) T 
  have H13 := ok__law_pick (P := l.prog) (w := w) (base := base) F13 (PySem.W.mg_of X G a13) T H12
  have H14 := ok__law_same (P := l.prog) (w := w) (base := base) F14 (PySem.W.mg_of X G a14) T  8
  have H15 := ok__law_int (P := l.prog) (w := w) (base := base) F15 (PySem.W.mg_of X G a15) T 
  have H16 := ok__law_bent (P := l.prog) (w := w) (base := base) F16 (PySem.W.mg_of X G a16) T H12 8
  have H17 := ok__law_order (P := l.prog) (w := w) (base := base) F17 (PySem.W.mg_of X G a17) T H12
  have H18 := ok__law_is_clause (P := l.prog) (w := w) (base := base) F18 (PySem.W.mg_of X G a18) T H15
  have H19 := ok__law_some_clause (P := l.prog) (w := w) (base := base) F19 (PySem.W.mg_of X G a19) T H12 H13
  have H20 := ok__law_clauses (P := l.prog) (w := w) (base := base) F20 (PySem.W.mg_of X G a20) T H12 H19 H17
  have H21 := ok__law_all_truths (P := l.prog) (w := w) (base := base) F21 (PySem.W.mg_of X G a21) T 
  have H22 := ok__law_hold_all (P := l.prog) (w := w) (base := base) F22 (PySem.W.mg_of X G a22) T 
  have H23 := ok__law_models (P := l.prog) (w := w) (base := base) F23 (PySem.W.mg_of X G a23) T H21 H22
  have H24 := ok__law_no_clauses (P := l.prog) (w := w) (base := base) F24 (PySem.W.mg_of X G a24) T H13
  have H25 := ok__law_ask (P := l.prog) (w := w) (base := base) F25 (PySem.W.mg_of X G a25) T H8 H10 H9
  have H26 := ok__law_forced (P := l.prog) (w := w) (base := base) F26 (PySem.W.mg_of X G a26) T 
  have H27 := ok__law_due (P := l.prog) (w := w) (base := base) F27 (PySem.W.mg_of X G a27) T H26
  have H28 := ok__law_facts_right (P := l.prog) (w := w) (base := base) F28 (PySem.W.mg_of X G a28) T H26 H27
  exact ok_law F29 T H11 H12 H20 H23 H26 H25 H14 H19 H28 H16 H18 H27 H24 H13 law_true
theorem walk {l : PySem.W.OpenLaw} {q : Program} {loose : List Str} {XP : (Str → Option Value) → Heap → Prop} {YP : World → Heap → Prop} {d : DefRec} {K : Params → PySem.W.Frag} (hn : l.most = some 63) (hdf : d.params.defaults = [])
    (hY : ∀ (w : World) (h : Heap), YP w h → (K w.params).In h)
    (F : ∀ (w : World) (mg : Str → Option Value) (fa : Addr) (h : Heap), (K w.params).In h → h.Ns mainGlobals mg → mg d.name = some (.ref fa) →
      ∃ fd : FuncData, (∀ (s : Shared) (u : Value), BindsTo s fd ⟨[u], []⟩ [("script", u)]) ∧ ∀ base : Heap, (K w.params).In base → base.Ns mainGlobals mg → FnOk l.prog w (K w.params) mg base (L2.CX l.prog w) 10 fa fd ["script"] (spLaw (K w.params))) :
    PySem.W.WalkO q loose XP YP l.row.toRowW d [] (fun f vs => PySem.call f vs) :=
  L2.walk_of (n := 63) (k := 10) (x := "script") (CX := fun w => L2.CX l.prog w) (sp := fun w => spLaw (K w.params)) hn (by decide) hdf ⟨rfl, by decide, by decide⟩ hY F (fun _ _ a ns hl _ hS => ⟨a, ns, rfl, hS, hl, fun _ => rfl⟩) fun _ _ _ _ _ hx => by
    obtain ⟨_, _, _, _, _, _, _, _, _, _, _, _, h⟩ := hx
    exact h
end K14

open PySem PySem.W PyProof.Rows in
set_option maxRecDepth 100000 in
set_option maxHeartbeats 0 in
theorem PySem.Challenge.cw_theoriesjoin_k14_units_holds : PySem.Challenge.rw_theoriesjoin_k14_units.Holds := by
  w_on; o_law; k_head; (case hw => w_witness2)
  k_fill
  refine K14.walk (l := PySem.Challenge.rw_theoriesjoin_k14_units) rfl rfl (fun w h Y => PySem.W.kIn_of Y) ?F
  case F =>
    intro w mg fa h KX G hmg
    refine' K14.all_mk KX G hmg ?a0 ?l0 ?q0 ?k0 ?a1 ?l1 ?q1 ?k1 ?a2 ?l2 ?q2 ?k2 ?a3 ?l3 ?q3 ?k3 ?a4 ?l4 ?q4 ?k4 ?a5 ?l5 ?q5 ?k5 ?a6 ?l6 ?q6 ?k6 ?a7 ?l7 ?q7 ?k7 ?a8 ?l8 ?q8 ?k8 ?a9 ?l9 ?q9 ?k9 ?a10 ?l10 ?q10 ?k10 ?a11 ?l11 ?q11 ?k11 ?a12 ?l12 ?q12 ?k12 ?a13 ?l13 ?q13 ?k13 ?a14 ?l14 ?q14 ?k14 ?a15 ?l15 ?q15 ?k15 ?a16 ?l16 ?q16 ?k16 ?a17 ?l17 ?q17 ?k17 ?a18 ?l18 ?q18 ?k18 ?a19 ?l19 ?q19 ?k19 ?a20 ?l20 ?q20 ?k20 ?a21 ?l21 ?q21 ?k21 ?a22 ?l22 ?q22 ?k22 ?a23 ?l23 ?q23 ?k23 ?a24 ?l24 ?q24 ?k24 ?a25 ?l25 ?q25 ?k25 ?a26 ?l26 ?q26 ?k26 ?a27 ?l27 ?q27 ?k27 ?a28 ?l28 ?q28 ?k28 ?a29 ?l29 ?q29 ?k29 ?xa0 ?xe0 ?xk0 ?xs0 ?xt0 ?xi0 ?xa1 ?xe1 ?xk1 ?xs1 ?xt1 ?xi1 ?xa2 ?xe2 ?xk2 ?xs2 ?xt2 ?xi2 ?m0_0 ?m0_1 ?m0_2 ?m1_0 ?m1_1 ?m1_2 ?m2_0 ?m2_1 ?m2_2 ?z_abs ?z_all ?z_any ?z_bool ?z_int ?z_isinstance ?z_len ?z_list ?z_max ?z_min ?z_range ?z_set ?z_sorted ?z_str ?z_tuple
    (case a0 => k_is)
    (case l0 => k_is)
    (case q0 => k_is)
    (case k0 => k_is)
    (case a1 => k_is)
    (case l1 => k_is)
    (case q1 => k_is)
    (case k1 => k_is)
    (case a2 => k_is)
    (case l2 => k_is)
    (case q2 => k_is)
    (case k2 => k_is)
    (case a3 => k_is)
    (case l3 => k_is)
    (case q3 => k_is)
    (case k3 => k_is)
    (case a4 => k_is)
    (case l4 => k_is)
    (case q4 => k_is)
    (case k4 => k_is)
    (case a5 => k_is)
    (case l5 => k_is)
    (case q5 => k_is)
    (case k5 => k_is)
    (case a6 => k_is)
    (case l6 => k_is)
    (case q6 => k_is)
    (case k6 => k_is)
    (case a7 => k_is)
    (case l7 => k_is)
    (case q7 => k_is)
    (case k7 => k_is)
    (case a8 => k_is)
    (case l8 => k_is)
    (case q8 => k_is)
    (case k8 => k_is)
    (case a9 => k_is)
    (case l9 => k_is)
    (case q9 => k_is)
    (case k9 => k_is)
    (case a10 => k_is)
    (case l10 => k_is)
    (case q10 => k_is)
    (case k10 => k_is)
    (case a11 => k_is)
    (case l11 => k_is)
    (case q11 => k_is)
    (case k11 => k_is)
    (case a12 => k_is)
    (case l12 => k_is)
    (case q12 => k_is)
    (case k12 => k_is)
    (case a13 => k_is)
    (case l13 => k_is)
    (case q13 => k_is)
    (case k13 => k_is)
    (case a14 => k_is)
    (case l14 => k_is)
    (case q14 => k_is)
    (case k14 => k_is)
    (case a15 => k_is)
    (case l15 => k_is)
    (case q15 => k_is)
    (case k15 => k_is)
    (case a16 => k_is)
    (case l16 => k_is)
    (case q16 => k_is)
    (case k16 => k_is)
    (case a17 => k_is)
    (case l17 => k_is)
    (case q17 => k_is)
    (case k17 => k_is)
    (case a18 => k_is)
    (case l18 => k_is)
    (case q18 => k_is)
    (case k18 => k_is)
    (case a19 => k_is)
    (case l19 => k_is)
    (case q19 => k_is)
    (case k19 => k_is)
    (case a20 => k_is)
    (case l20 => k_is)
    (case q20 => k_is)
    (case k20 => k_is)
    (case a21 => k_is)
    (case l21 => k_is)
    (case q21 => k_is)
    (case k21 => k_is)
    (case a22 => k_is)
    (case l22 => k_is)
    (case q22 => k_is)
    (case k22 => k_is)
    (case a23 => k_is)
    (case l23 => k_is)
    (case q23 => k_is)
    (case k23 => k_is)
    (case a24 => k_is)
    (case l24 => k_is)
    (case q24 => k_is)
    (case k24 => k_is)
    (case a25 => k_is)
    (case l25 => k_is)
    (case q25 => k_is)
    (case k25 => k_is)
    (case a26 => k_is)
    (case l26 => k_is)
    (case q26 => k_is)
    (case k26 => k_is)
    (case a27 => k_is)
    (case l27 => k_is)
    (case q27 => k_is)
    (case k27 => k_is)
    (case a28 => k_is)
    (case l28 => k_is)
    (case q28 => k_is)
    (case k28 => k_is)
    (case a29 => k_is)
    (case l29 => k_is)
    (case q29 => k_is)
    (case k29 => k_is)
    (case xa0 => k_is)
    (case xe0 => k_exc)
    (case xk0 => k_is)
    (case xs0 => k_is)
    (case xt0 => k_is)
    (case xi0 => k_is)
    (case xa1 => k_is)
    (case xe1 => k_exc)
    (case xk1 => k_is)
    (case xs1 => k_is)
    (case xt1 => k_is)
    (case xi1 => k_is)
    (case xa2 => k_is)
    (case xe2 => k_exc)
    (case xk2 => k_is)
    (case xs2 => k_is)
    (case xt2 => k_is)
    (case xi2 => k_is)
    (case m0_0 => first | rfl | k_is)
    (case m0_1 => first | rfl | k_is)
    (case m0_2 => first | rfl | k_is)
    (case m1_0 => first | rfl | k_is)
    (case m1_1 => first | rfl | k_is)
    (case m1_2 => first | rfl | k_is)
    (case m2_0 => first | rfl | k_is)
    (case m2_1 => first | rfl | k_is)
    (case m2_2 => first | rfl | k_is)
    (case z_abs => k_is)
    (case z_all => k_is)
    (case z_any => k_is)
    (case z_bool => k_is)
    (case z_int => k_is)
    (case z_isinstance => k_is)
    (case z_len => k_is)
    (case z_list => k_is)
    (case z_max => k_is)
    (case z_min => k_is)
    (case z_range => k_is)
    (case z_set => k_is)
    (case z_sorted => k_is)
    (case z_str => k_is)
    (case z_tuple => k_is)
#print axioms PySem.Challenge.cw_theoriesjoin_k14_units_holds
