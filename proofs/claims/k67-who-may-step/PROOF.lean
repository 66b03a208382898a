import PyProof.Rows.All
import HandS.ForMost
import HandS.Exc
import HandS.ExcOwn
import HandS.Deep
import HandS.Flow
import HandS.TupAny
import HandS.Style
import HandS.Wide
import HandS.Conv
import HandS.IsInst
import HandS.RaiseMore
import HandS.Iter
import HandS.Comp
import HandS.WordsExc
import KE.GoesEnum
import HandS.Defaults
import HandS.MakeKwOnly
import Wide.All
import OpenK.AllK
import Wide.FinOn
import PySem.Challenge.RW_plainroads_k67_who_may_step
set_option Elab.async false
set_option linter.all false
set_option maxRecDepth 100000
set_option autoImplicit false
/-! VL0: the value layer: deep values, the relation of a plain state to the abstract heap, readings by plain functions. -/
namespace VL
open PySem L2

/-- a deep value: tuples, frozen lists and frozen objects by what they hold; loc n: the n-th own cell -/
inductive D where
  | non | bl (b : Bool) | int (i : Int) | str (x : Str)
  | tup (ds : List D) | lst (ds : List D) | frl (ds : List D)
  | obj (C : Nat) (ks : List Str) (ds : List D)
  | loc (n : Nat)

/-- an own cell, that the def may change -/
inductive Cell where
  | lst (ds : List D)
  | dk (ks : List Key) (ds : List D)
  | ins (C : Nat) (ks : List Str) (ds : List D)

/-- an exception of an own class: its class, its own fields -/
structure Exn where
  C : Nat
  ks : List Str
  ds : List D

/-- a state: the slots, the cells -/
structure S where
  env : List (Option D)
  cs : List Cell

/-- the written part, and where the classes stand in it -/
structure Kt where
  K : PySem.W.Frag
  κ : Nat → Addr

section
variable (K : Kt) (ρ : List Addr) (F : Hp)
mutual
inductive RV : D → V → Prop
  | non : RV .non .non
  | bl (b : Bool) : RV (.bl b) (.bl b)
  | int (i : Int) : RV (.int i) (.int i)
  | str (x : Str) : RV (.str x) (.str x)
  | tup {a : Addr} {vs : List V} {ds : List D} : SqT K.K F a vs → RVs ds vs → RV (.tup ds) (.ref a)
  | lst {a : Addr} {vs : List V} {ds : List D} : F a = some (.lst vs) → RVs ds vs → RV (.lst ds) (.ref a)
  | frl {a : Addr} {vs : List V} {ds : List D} : SqL K.K F a vs → RVs ds vs → RV (.frl ds) (.ref a)
  | obj {a dx : Addr} {C : Nat} {ks : List Str} {vs : List V} {ds : List D} : F a = some (.ins (K.κ C) dx (ks.zip vs)) → ks.length = vs.length → RVs ds vs → RV (.obj C ks ds) (.ref a)
  | loc {n : Nat} {a : Addr} : ρ[n]? = some a → RV (.loc n) (.ref a)
inductive RVs : List D → List V → Prop
  | nil : RVs [] []
  | cons {d : D} {ds : List D} {v : V} {vs : List V} : RV d v → RVs ds vs → RVs (d :: ds) (v :: vs)
end
end

theorem sqT_same {K : PySem.W.Frag} {H H' : Hp} {a : Addr} {xs : List V} (e : Same H H') (h : SqT K H a xs) : SqT K H' a xs := by
  rcases h with (h | ⟨o, h⟩) | h
  · exact .inl (.inl (e _ _ h))
  · exact .inl (.inr ⟨o, e _ _ h⟩)
  · exact .inr h

/-- the own cells go on, what is frozen goes on -/
structure Ext (ρ : List Addr) (F : Hp) (ρ' : List Addr) (F' : Hp) : Prop where
  pre : ρ <+: ρ'
  fz : Same F F'
theorem Ext.refl {ρ : List Addr} {F : Hp} : Ext ρ F ρ F := ⟨List.prefix_refl _, Same.refl _⟩
theorem Ext.trans {ρ ρ1 ρ2 : List Addr} {F F1 F2 : Hp} (a : Ext ρ F ρ1 F1) (b : Ext ρ1 F1 ρ2 F2) : Ext ρ F ρ2 F2 := ⟨a.pre.trans b.pre, a.fz.trans b.fz⟩
theorem Ext.at {ρ ρ' : List Addr} {F F' : Hp} (x : Ext ρ F ρ' F') {n : Nat} {a : Addr} (h : ρ[n]? = some a) : ρ'[n]? = some a := by
  obtain ⟨t, rfl⟩ := x.pre
  rw [List.getElem?_append_left (List.getElem?_eq_some_iff.mp h).1]
  exact h

mutual
theorem RV.ext {K : Kt} {ρ ρ' : List Addr} {F F' : Hp} (x : Ext ρ F ρ' F') : ∀ {d : D} {v : V}, RV K ρ F d v → RV K ρ' F' d v
  | _, _, .non => .non
  | _, _, .bl b => .bl b
  | _, _, .int i => .int i
  | _, _, .str z => .str z
  | _, _, .tup h r => .tup (sqT_same x.fz h) (RVs.ext x r)
  | _, _, .lst h r => .lst (x.fz _ _ h) (RVs.ext x r)
  | _, _, .frl h r => .frl (x.fz.seq h) (RVs.ext x r)
  | _, _, .obj h l r => .obj (x.fz _ _ h) l (RVs.ext x r)
  | _, _, .loc h => .loc (x.at h)
theorem RVs.ext {K : Kt} {ρ ρ' : List Addr} {F F' : Hp} (x : Ext ρ F ρ' F') : ∀ {ds : List D} {vs : List V}, RVs K ρ F ds vs → RVs K ρ' F' ds vs
  | _, _, .nil => .nil
  | _, _, .cons h r => .cons (RV.ext x h) (RVs.ext x r)
end

def CellAt (K : Kt) (ρ : List Addr) (F H : Hp) (a : Addr) : Cell → Prop
  | .lst ds => ∃ vs, H a = some (.lst vs) ∧ RVs K ρ F ds vs
  | .dk ks ds => ∃ vs, H a = some (.dK (ks.zip vs)) ∧ ks.length = vs.length ∧ RVs K ρ F ds vs
  | .ins C ks ds => ∃ dx vs, H a = some (.ins (K.κ C) dx (ks.zip vs)) ∧ ks.length = vs.length ∧ RVs K ρ F ds vs
theorem CellAt.some {K : Kt} {ρ : List Addr} {F H : Hp} {a : Addr} : ∀ {c : Cell}, CellAt K ρ F H a c → ∃ o, H a = some o
  | .lst _, ⟨_, h, _⟩ => ⟨_, h⟩
  | .dk _ _, ⟨_, h, _⟩ => ⟨_, h⟩
  | .ins _ _ _, ⟨_, _, h, _⟩ => ⟨_, h⟩
theorem CellAt.ext {K : Kt} {ρ ρ' : List Addr} {F F' H H' : Hp} {a : Addr} (x : Ext ρ F ρ' F') (e : H' a = H a) : ∀ {c : Cell}, CellAt K ρ F H a c → CellAt K ρ' F' H' a c
  | .lst _, ⟨_, h, r⟩ => ⟨_, e.trans h, r.ext x⟩
  | .dk _ _, ⟨_, h, l, r⟩ => ⟨_, e.trans h, l, r.ext x⟩
  | .ins _ _ _, ⟨_, _, h, l, r⟩ => ⟨_, _, e.trans h, l, r.ext x⟩

/-- the entry of the def: the written part, the heap, what was frozen, the cells that were handed in -/
structure Gx where
  K : Kt
  H0 : Hp
  F0 : Hp
  A0 : List Addr

structure Rel (G : Gx) (ρ : List Addr) (F : Hp) (st : S) (σ : St) (H : Hp) : Prop where
  len : st.env.length = σ.length
  env : ∀ (i : Nat) (d : D), st.env[i]? = some (some d) → ∃ v : V, σ[i]? = some (some v) ∧ RV G.K ρ F d v
  cl : ρ.length = st.cs.length
  cell : ∀ (i : Nat) (c : Cell) (a : Addr), st.cs[i]? = some c → ρ[i]? = some a → CellAt G.K ρ F H a c
  nd : ρ.Nodup
  fz : Same F H
  sep : ∀ a ∈ ρ, F a = none
  fr : ∀ a o, G.H0 a = some o → a ∉ G.A0 → H a = some o
  own : ∀ a ∈ ρ, a ∈ G.A0 ∨ G.H0 a = none
  new : ∀ a o, F a = some o → G.F0 a = some o ∨ G.H0 a = none
  old : Same G.F0 F
  a0 : G.A0 <+: ρ

section
variable {G : Gx} {ρ ρ' : List Addr} {F F' : Hp} {st : S} {σ : St} {H H' : Hp}
theorem Rel.inρ (r : Rel G ρ F st σ H) {a : Addr} (h : a ∈ ρ) : ∃ o, H a = some o := by
  obtain ⟨i, hi, rfl⟩ := List.getElem_of_mem h
  have hc : i < st.cs.length := by rw [← r.cl]; exact hi
  exact (r.cell i st.cs[i] ρ[i] (List.getElem?_eq_getElem hc) (List.getElem?_eq_getElem hi)).some
theorem Rel.free (r : Rel G ρ F st σ H) {p : Addr} (h : H p = none) : p ∉ ρ := fun hm => by
  obtain ⟨o, e⟩ := r.inρ hm
  rw [h] at e; cases e
theorem Rel.free0 (r : Rel G ρ F st σ H) {p : Addr} (h : H p = none) : G.H0 p = none := by
  cases e : G.H0 p with
  | none => rfl
  | some o =>
    by_cases ha : p ∈ G.A0
    · exact absurd (r.a0.subset ha) (r.free h)
    · have := r.fr p o e ha
      rw [h] at this; cases this
theorem Rel.freeF (r : Rel G ρ F st σ H) {p : Addr} (h : H p = none) : F p = none := r.fz.free h
theorem same_upd' {H : Hp} {p : Addr} {o : HO} (h : H p = none) : Same H (upd H p o) := fun b x e => by
  rw [upd_ne (ne_of_none e h)]
  exact e
/-- something new that stays as it is -/
theorem Rel.fresh (r : Rel G ρ F st σ H) {p : Addr} {o : HO} (h : H p = none) : Ext ρ F ρ (upd F p o) ∧ Rel G ρ (upd F p o) st σ (upd H p o) := by
  have x : Ext ρ F ρ (upd F p o) := ⟨List.prefix_refl _, same_upd' (r.freeF h)⟩
  have hne : ∀ a ∈ ρ, a ≠ p := fun a ha e => r.free h (e ▸ ha)
  refine ⟨x, ⟨r.len, fun i d e => ?_, r.cl, fun i c a e1 e2 => ?_, r.nd, fun b u e => ?_, fun a ha => ?_, fun a u e1 e2 => ?_, r.own, fun a u e => ?_, r.old.trans x.fz, r.a0⟩⟩
  · obtain ⟨v, e1, e2⟩ := r.env i d e
    exact ⟨v, e1, e2.ext x⟩
  · exact (r.cell i c a e1 e2).ext x (upd_ne (hne a (List.mem_of_getElem? e2)))
  · by_cases hb : b = p
    · subst hb
      rw [upd_same] at e ⊢
      exact e
    · rw [upd_ne hb] at e ⊢
      exact r.fz b u e
  · rw [upd_ne (hne a ha)]
    exact r.sep a ha
  · rw [upd_ne (fun z => by rw [z, r.free0 h] at e1; cases e1)]
    exact r.fr a u e1 e2
  · by_cases hb : a = p
    · subst hb
      exact .inr (r.free0 h)
    · rw [upd_ne hb] at e
      exact r.new a u e
/-- a new own cell -/
theorem Rel.cellNew (r : Rel G ρ F st σ H) {p : Addr} {o : HO} {c : Cell} (h : H p = none) (hc : CellAt G.K (ρ ++ [p]) F (upd H p o) p c) : Ext ρ F (ρ ++ [p]) F ∧ Rel G (ρ ++ [p]) F ⟨st.env, st.cs ++ [c]⟩ σ (upd H p o) := by
  have x : Ext ρ F (ρ ++ [p]) F := ⟨List.prefix_append _ _, Same.refl _⟩
  have hne : ∀ a ∈ ρ, a ≠ p := fun a ha e => r.free h (e ▸ ha)
  refine ⟨x, ⟨r.len, fun i d e => ?_, ?_, fun i c' a e1 e2 => ?_, ?_, fun b u e => ?_, fun a ha => ?_, fun a u e1 e2 => ?_, fun a ha => ?_, r.new, r.old, r.a0.trans x.pre⟩⟩
  · obtain ⟨v, e1, e2⟩ := r.env i d e
    exact ⟨v, e1, e2.ext x⟩
  · show (ρ ++ [p]).length = (st.cs ++ [c]).length
    rw [List.length_append, List.length_append, r.cl]; rfl
  · by_cases hi : i < ρ.length
    · rw [List.getElem?_append_left hi] at e2
      rw [show (S.mk st.env (st.cs ++ [c])).cs = st.cs ++ [c] from rfl, List.getElem?_append_left (by rw [← r.cl]; exact hi)] at e1
      exact (r.cell i c' a e1 e2).ext x (upd_ne (hne a (List.mem_of_getElem? e2)))
    · have hi2 : i = ρ.length := by
        have := (List.getElem?_eq_some_iff.mp e2).1
        rw [List.length_append] at this
        have : i < ρ.length + 1 := this
        omega
      subst hi2
      have f2 : p = a := by
        rw [List.getElem?_append_right (Nat.le_refl _), Nat.sub_self] at e2
        exact Option.some.inj e2
      have f1 : c = c' := by
        rw [show (S.mk st.env (st.cs ++ [c])).cs = st.cs ++ [c] from rfl, List.getElem?_append_right (by rw [r.cl]; exact Nat.le_refl _), r.cl, Nat.sub_self] at e1
        exact Option.some.inj e1
      subst f1 f2
      exact hc
  · refine List.nodup_append.mpr ⟨r.nd, List.nodup_cons.mpr ⟨List.not_mem_nil, List.nodup_nil⟩, fun a ha b hb => ?_⟩
    rw [List.mem_singleton.mp hb]
    exact hne a ha
  · rw [upd_ne (ne_of_none (r.fz b u e) h)]
    exact r.fz b u e
  · rcases List.mem_append.mp ha with ha | ha
    · exact r.sep a ha
    · rw [List.mem_singleton.mp ha]
      exact r.freeF h
  · rw [upd_ne (fun z => by rw [z, r.free0 h] at e1; cases e1)]
    exact r.fr a u e1 e2
  · rcases List.mem_append.mp ha with ha | ha
    · exact r.own a ha
    · rw [List.mem_singleton.mp ha]
      exact .inr (r.free0 h)
/-- an own cell is changed -/
theorem Rel.cellSet (r : Rel G ρ F st σ H) {n : Nat} {a : Addr} {o : HO} {c : Cell} (ha : ρ[n]? = some a) (hc : CellAt G.K ρ F (upd H a o) a c) : Rel G ρ F ⟨st.env, st.cs.set n c⟩ σ (upd H a o) := by
  have hm : a ∈ ρ := List.mem_of_getElem? ha
  refine ⟨r.len, r.env, ?_, fun i c' b e1 e2 => ?_, r.nd, fun b u e => ?_, r.sep, fun b u e1 e2 => ?_, r.own, r.new, r.old, r.a0⟩
  · show ρ.length = (st.cs.set n c).length
    rw [List.length_set, r.cl]
  · by_cases hi : i = n
    · subst hi
      rw [ha] at e2
      cases e2
      have hl : i < st.cs.length := by rw [← r.cl]; exact (List.getElem?_eq_some_iff.mp ha).1
      rw [show (S.mk st.env (st.cs.set i c)).cs = st.cs.set i c from rfl, List.getElem?_set_self hl] at e1
      cases e1
      exact hc
    · rw [show (S.mk st.env (st.cs.set n c)).cs = st.cs.set n c from rfl, List.getElem?_set_ne (fun z => hi z.symm)] at e1
      have hb : b ≠ a := fun z => by
        subst z
        obtain ⟨h1, h1'⟩ := List.getElem?_eq_some_iff.mp e2
        obtain ⟨h2, h2'⟩ := List.getElem?_eq_some_iff.mp ha
        exact hi ((List.getElem_inj r.nd).mp (h1'.trans h2'.symm))
      exact (r.cell i c' b e1 e2).ext Ext.refl (upd_ne hb)
  · rw [upd_ne (fun z => by rw [z, r.sep a hm] at e; cases e)]
    exact r.fz b u e
  · have hb : b ≠ a := fun z => by
      subst z
      rcases r.own b hm with q | q
      · exact e2 q
      · rw [q] at e1; cases e1
    rw [upd_ne hb]
    exact r.fr b u e1 e2
/-- a slot is set -/
theorem Rel.slot (r : Rel G ρ F st σ H) {i : Nat} {d : D} {v : V} (h : RV G.K ρ F d v) : Rel G ρ F ⟨st.env.set i (some d), st.cs⟩ (σ.set i (some v)) H := by
  refine ⟨?_, fun j e h2 => ?_, r.cl, r.cell, r.nd, r.fz, r.sep, r.fr, r.own, r.new, r.old, r.a0⟩
  · show (st.env.set i (some d)).length = _
    rw [List.length_set, List.length_set, r.len]
  · by_cases hj : i = j
    · subst hj
      have hl : i < st.env.length := by
        have := (List.getElem?_eq_some_iff.mp h2).1
        rw [show (S.mk (st.env.set i (some d)) st.cs).env = st.env.set i (some d) from rfl, List.length_set] at this
        exact this
      rw [show (S.mk (st.env.set i (some d)) st.cs).env = st.env.set i (some d) from rfl, List.getElem?_set_self hl] at h2
      cases h2
      exact ⟨v, List.getElem?_set_self (by rw [← r.len]; exact hl), h⟩
    · rw [show (S.mk (st.env.set i (some d)) st.cs).env = st.env.set i (some d) from rfl, List.getElem?_set_ne hj] at h2
      obtain ⟨u, e1, e2⟩ := r.env j e h2
      exact ⟨u, by rw [List.getElem?_set_ne hj]; exact e1, e2⟩
/-- slots are forgotten -/
theorem Rel.forget (r : Rel G ρ F st σ H) {env' : List (Option D)} (hl : env'.length = st.env.length) (h : ∀ (i : Nat) (d : D), env'[i]? = some (some d) → st.env[i]? = some (some d)) : Rel G ρ F ⟨env', st.cs⟩ σ H :=
  ⟨hl.trans r.len, fun i d e => r.env i d (h i d e), r.cl, r.cell, r.nd, r.fz, r.sep, r.fr, r.own, r.new, r.old, r.a0⟩
end

/-! ### results and readings -/
inductive Out (α : Type) where
  | ok (a : α) (cs : List Cell)
  | ex (e : Exn) (cs : List Cell)
  | no
def Out.bind {α β : Type} : Out α → (α → List Cell → Out β) → Out β
  | .ok a cs, k => k a cs
  | .ex e cs, _ => .ex e cs
  | .no, _ => .no
/-- an exception e stands as the class cls with the own dict d -/
def XAt (K : Kt) (ρ : List Addr) (F : Hp) (e : Exn) (cls : Value) (d : Option Addr) : Prop :=
  cls = .ref (K.κ e.C) ∧ ∃ x vs, d = some x ∧ F x = some (.xd (e.ks.zip vs)) ∧ e.ks.length = vs.length ∧ RVs K ρ F e.ds vs
section
variable {α β γ δ : Type}
def Post (R : Kt → List Addr → Hp → α → β → Prop) (G : Gx) (W : WX) (ρ : List Addr) (F : Hp) (env : List (Option D)) (σ : St) (Q : β → Hp → Prop) : Out α → Prop
  | .ok d cs => ∀ ρ' F' H' v, Ext ρ F ρ' F' → Rel G ρ' F' ⟨env, cs⟩ σ H' → R G.K ρ' F' d v → Q v H'
  | .ex e cs => ∀ ρ' F' H' cls dx, Ext ρ F ρ' F' → Rel G ρ' F' ⟨env, cs⟩ σ H' → XAt G.K ρ' F' e cls dx → W cls dx σ H'
  | .no => False
def tX (R : Kt → List Addr → Hp → α → β → Prop) (G : Gx) (W : WX) (f : S → Out α) (σ : St) (H : Hp) (Q : β → Hp → Prop) : Prop :=
  ∃ ρ F st, Rel G ρ F st σ H ∧ Post R G W ρ F st.env σ Q (f st)
theorem Post.ext {R : Kt → List Addr → Hp → α → β → Prop} {G : Gx} {W : WX} {ρ ρ' : List Addr} {F F' : Hp} {env : List (Option D)} {σ : St} {Q : β → Hp → Prop} (x : Ext ρ F ρ' F') : ∀ {o : Out α}, Post R G W ρ F env σ Q o → Post R G W ρ' F' env σ Q o
  | .ok _ _, h => fun ρ2 F2 H2 v y r rv => h ρ2 F2 H2 v (x.trans y) r rv
  | .ex _ _, h => fun ρ2 F2 H2 c d y r rv => h ρ2 F2 H2 c d (x.trans y) r rv
  | .no, h => h
theorem seqX {R : Kt → List Addr → Hp → α → β → Prop} {R' : Kt → List Addr → Hp → γ → δ → Prop} {G : Gx} {W : WX} {ρ : List Addr} {F : Hp} {st : S} {σ : St} {H : Hp} {f : S → Out α} {k : α → List Cell → Out γ} {Q : δ → Hp → Prop} {Q' : β → Hp → Prop}
    (r : Rel G ρ F st σ H) (p : Post R' G W ρ F st.env σ Q ((f st).bind k))
    (h : ∀ ρ' F' H' a cs v, Ext ρ F ρ' F' → Rel G ρ' F' ⟨st.env, cs⟩ σ H' → R G.K ρ' F' a v → Post R' G W ρ' F' st.env σ Q (k a cs) → Q' v H') : tX R G W f σ H Q' := by
  refine ⟨ρ, F, st, r, ?_⟩
  cases e : f st with
  | ok a cs =>
    rw [e] at p
    exact fun ρ' F' H' v x r' rv => h ρ' F' H' a cs v x r' rv (Post.ext x p)
  | ex e' cs =>
    rw [e] at p
    exact p
  | no =>
    rw [e] at p
    exact p
theorem Post.here {R : Kt → List Addr → Hp → α → β → Prop} {G : Gx} {W : WX} {ρ : List Addr} {F : Hp} {st : S} {σ : St} {H : Hp} {Q : β → Hp → Prop} {d : α} {cs : List Cell} {v : β}
    (p : Post R G W ρ F st.env σ Q (.ok d cs)) (r : Rel G ρ F ⟨st.env, cs⟩ σ H) (h : R G.K ρ F d v) : Q v H := p ρ F H v Ext.refl r h
end
abbrev Ex := S → Out D
abbrev tE := @tX D V RV
abbrev tAs := @tX (List D) (List V) RVs
def RB (_ : Kt) (_ : List Addr) (_ : Hp) (a b : Bool) : Prop := a = b
abbrev tTs := @tX Bool Bool RB
theorem _root_.L2.PE.impV {X : Cx} {e : Expr} {t t' : TE} (h : PE X e t) (m : ∀ σ H Q, t' σ H Q → t σ H Q) : PE X e t' := ⟨fun pins s σ H Q I hw => h.run pins s σ H Q I (m _ _ _ hw)⟩
theorem _root_.L2.PT.impV {X : Cx} {e : Expr} {t t' : TT} (h : PT X e t) (m : ∀ σ H Q, t' σ H Q → t σ H Q) : PT X e t' := ⟨fun pins s σ H Q I hw => h.run pins s σ H Q I (m _ _ _ hw)⟩
theorem _root_.L2.PA.impV {X : Cx} {e : List Expr} {t t' : TA} (h : PA X e t) (m : ∀ σ H Q, t' σ H Q → t σ H Q) : PA X e t' := ⟨fun pos pins s σ H Q I hw => h.run pos pins s σ H Q I (m _ _ _ hw)⟩
theorem _root_.L2.PS.impV {X : Cx} {e : Stmt} {t t' : TS} (h : PS X e t) (m : ∀ D σ H, t' D σ H → t D σ H) : PS X e t' := ⟨fun pins s σ H D I hw => h.run pins s σ H D I (m _ _ _ hw)⟩
theorem _root_.L2.PSs.impV {X : Cx} {e : List Stmt} {t t' : TS} (h : PSs X e t) (m : ∀ D σ H, t' D σ H → t D σ H) : PSs X e t' := ⟨fun pins s σ H D I hw => h.run pins s σ H D I (m _ _ _ hw)⟩
end VL

namespace VL
open PySem L2

/-! ### lists of related values -/
section
variable {K : Kt} {ρ : List Addr} {F : Hp}
theorem RVs.length : ∀ {ds : List D} {vs : List V}, RVs K ρ F ds vs → ds.length = vs.length
  | _, _, .nil => rfl
  | _, _, .cons _ r => congrArg (· + 1) (RVs.length r)
theorem RVs.get : ∀ {ds : List D} {vs : List V} {i : Nat} {d : D}, RVs K ρ F ds vs → ds[i]? = some d → ∃ v, vs[i]? = some v ∧ RV K ρ F d v
  | _, _, _, _, .nil, e => by simp at e
  | _, _, 0, _, .cons h _, e => by
    simp only [List.getElem?_cons_zero, Option.some.injEq] at e
    subst e
    exact ⟨_, rfl, h⟩
  | _, _, i + 1, _, .cons _ r, e => by
    simp only [List.getElem?_cons_succ] at e ⊢
    exact RVs.get r e
theorem RVs.getV : ∀ {ds : List D} {vs : List V} {i : Nat} {v : V}, RVs K ρ F ds vs → vs[i]? = some v → ∃ d, ds[i]? = some d ∧ RV K ρ F d v
  | _, _, _, _, .nil, e => by simp at e
  | _, _, 0, _, .cons h _, e => by
    simp only [List.getElem?_cons_zero, Option.some.injEq] at e
    subst e
    exact ⟨_, rfl, h⟩
  | _, _, i + 1, _, .cons _ r, e => by
    simp only [List.getElem?_cons_succ] at e ⊢
    exact RVs.getV r e
theorem RVs.append : ∀ {ds es : List D} {vs ws : List V}, RVs K ρ F ds vs → RVs K ρ F es ws → RVs K ρ F (ds ++ es) (vs ++ ws)
  | _, _, _, _, .nil, s => s
  | _, _, _, _, .cons h r, s => .cons h (RVs.append r s)
theorem RVs.take : ∀ {ds : List D} {vs : List V} (n : Nat), RVs K ρ F ds vs → RVs K ρ F (ds.take n) (vs.take n)
  | _, _, 0, _ => .nil
  | _, _, _ + 1, .nil => .nil
  | _, _, n + 1, .cons h r => .cons h (RVs.take n r)
theorem RVs.drop : ∀ {ds : List D} {vs : List V} (n : Nat), RVs K ρ F ds vs → RVs K ρ F (ds.drop n) (vs.drop n)
  | _, _, 0, r => r
  | _, _, _ + 1, .nil => .nil
  | _, _, n + 1, .cons _ r => RVs.drop n r
theorem RVs.set {d : D} {v : V} (h : RV K ρ F d v) : ∀ {ds : List D} {vs : List V} (n : Nat), RVs K ρ F ds vs → RVs K ρ F (ds.set n d) (vs.set n v)
  | _, _, _, .nil => .nil
  | _, _, 0, .cons _ r => .cons h r
  | _, _, n + 1, .cons q r => .cons q (RVs.set h n r)
theorem RVs.reverse : ∀ {ds : List D} {vs : List V}, RVs K ρ F ds vs → RVs K ρ F ds.reverse vs.reverse
  | _, _, .nil => .nil
  | _, _, .cons h r => by
    rw [List.reverse_cons, List.reverse_cons]
    exact RVs.append (RVs.reverse r) (.cons h .nil)
theorem RVs.one {d : D} {v : V} (h : RV K ρ F d v) : RVs K ρ F [d] [v] := .cons h .nil
end

/-! ### what a sequence holds -/
def lstOf (cs : List Cell) : D → Option (List D)
  | .lst ds => some ds
  | .frl ds => some ds
  | .loc n => match cs[n]? with
    | some (.lst ds) => some ds
    | _ => none
  | _ => none
def tupOf : D → Option (List D)
  | .tup ds => some ds
  | _ => none
def seqOf (cs : List Cell) (d : D) : Option (List D) := match d with
  | .tup ds => some ds
  | d => lstOf cs d
section
variable {G : Gx} {ρ : List Addr} {F : Hp} {st : S} {σ : St} {H : Hp} {x : D} {v : V} {ds : List D}
theorem Rel.at (r : Rel G ρ F st σ H) {n : Nat} {c : Cell} {v : V} (h : RV G.K ρ F (.loc n) v) (e : st.cs[n]? = some c) : ∃ a, v = .ref a ∧ ρ[n]? = some a ∧ CellAt G.K ρ F H a c := by
  cases h with
  | loc h => exact ⟨_, rfl, h, r.cell n c _ e h⟩
theorem lst_read (r : Rel G ρ F st σ H) (h : RV G.K ρ F x v) (e : lstOf st.cs x = some ds) : ∃ a vs, v = .ref a ∧ SqL G.K.K H a vs ∧ RVs G.K ρ F ds vs := by
  cases h with
  | lst h1 h2 =>
    cases e
    exact ⟨_, _, rfl, SqL.of (r.fz _ _ h1), h2⟩
  | frl h1 h2 =>
    cases e
    exact ⟨_, _, rfl, r.fz.seq h1, h2⟩
  | loc h1 =>
    rename_i n a
    have e : (match st.cs[n]? with
      | some (.lst ds) => some ds
      | _ => none) = some ds := e
    cases q : st.cs[n]? with
    | none => rw [q] at e; cases e
    | some c =>
      rw [q] at e
      cases c with
      | lst es =>
        cases e
        obtain ⟨vs, h2, h3⟩ := r.cell n _ _ q h1
        exact ⟨_, _, rfl, SqL.of h2, h3⟩
      | _ => cases e
  | _ => cases e
theorem tup_read (r : Rel G ρ F st σ H) (h : RV G.K ρ F x v) (e : tupOf x = some ds) : ∃ a vs, v = .ref a ∧ SqT G.K.K H a vs ∧ RVs G.K ρ F ds vs := by
  cases h with
  | tup h1 h2 =>
    cases e
    exact ⟨_, _, rfl, sqT_same r.fz h1, h2⟩
  | _ => cases e
theorem seq_read (r : Rel G ρ F st σ H) (h : RV G.K ρ F x v) (e : seqOf st.cs x = some ds) : ∃ a vs, v = .ref a ∧ (SqL G.K.K H a vs ∨ SqT G.K.K H a vs) ∧ RVs G.K ρ F ds vs := by
  cases x with
  | tup es =>
    obtain ⟨a, vs, h1, h2, h3⟩ := tup_read r h (show tupOf (.tup es) = some ds from e)
    exact ⟨a, vs, h1, .inr h2, h3⟩
  | _ =>
    obtain ⟨a, vs, h1, h2, h3⟩ := lst_read r h e
    exact ⟨a, vs, h1, .inl h2, h3⟩
end

/-! ### names and constants -/
section
variable {X : Cx} {G : Gx} {W : WX}
def eVar (i : Nat) : Ex := fun st => match st.env[i]? with
  | some (some d) => .ok d st.cs
  | _ => .no
theorem de_var {e : Expr} {i : Nat} (h : PE X e (tVar i)) : PE X e (tE G W (eVar i)) := h.impV fun σ H Q ⟨ρ, F, st, r, p⟩ => by
  unfold eVar at p
  cases q : st.env[i]? with
  | none => rw [q] at p; exact p.elim
  | some o =>
    rw [q] at p
    cases o with
    | none => exact p.elim
    | some d =>
      obtain ⟨v, e1, e2⟩ := r.env i d q
      exact ⟨v, e1, p.here r e2⟩
def eC (d : D) : Ex := fun st => .ok d st.cs
theorem de_c {e : Expr} {v : V} {d : D} (h : PE X e (tC v)) (hv : ∀ ρ F, RV G.K ρ F d v) : PE X e (tE G W (eC d)) := h.impV fun σ H Q ⟨ρ, F, st, r, p⟩ => p.here r (hv ρ F)
theorem de_int {i j pos} : PE X (.Constant (.int i) j pos) (tE G W (eC (.int i))) := de_c pe_int fun _ _ => .int _
theorem de_bl {b j pos} : PE X (.Constant (.bool b) j pos) (tE G W (eC (.bl b))) := de_c pe_bl fun _ _ => .bl _
theorem de_non {j pos} : PE X (.Constant .none j pos) (tE G W (eC .non)) := de_c pe_non fun _ _ => .non
theorem de_str {x j pos} : PE X (.Constant (.str x) j pos) (tE G W (eC (.str x))) := de_c pe_str fun _ _ => .str _

/-! ### operators -/
abbrev F2 := List Cell → D → D → Out D
abbrev F1 := List Cell → D → Out D
def V2 (G : Gx) (W : WX) (r : R2) (g : F2) : Prop := ∀ (ρ : List Addr) (F : Hp) (st : S) (σ : St) (H : Hp) (x y : D) (v w : V) (Q : VK), Rel G ρ F st σ H → RV G.K ρ F x v → RV G.K ρ F y w → Post RV G W ρ F st.env σ Q (g st.cs x y) → r v w H Q
def V1 (G : Gx) (W : WX) (r : V → Hp → VK → Prop) (g : F1) : Prop := ∀ (ρ : List Addr) (F : Hp) (st : S) (σ : St) (H : Hp) (x : D) (v : V) (Q : VK), Rel G ρ F st σ H → RV G.K ρ F x v → Post RV G W ρ F st.env σ Q (g st.cs x) → r v H Q
def eOp (g : F2) (fa fb : Ex) : Ex := fun st => (fa st).bind fun x c1 => (fb ⟨st.env, c1⟩).bind fun y c2 => g c2 x y
def eUn (g : F1) (fa : Ex) : Ex := fun st => (fa st).bind fun x c1 => g c1 x
variable {a b : Expr} {fa fb : Ex} {pos : Pos}
theorem tOp_of {r : R2} {g : F2} (hv : V2 G W r g) : ∀ σ H Q, tE G W (eOp g fa fb) σ H Q → tOp r (tE G W fa) (tE G W fb) σ H Q := fun σ H Q ⟨ρ, F, st, r, p⟩ =>
  seqX r p fun ρ1 F1 H1 x c1 v x1 r1 rv1 p1 => seqX (st := ⟨st.env, c1⟩) r1 p1 fun ρ2 F2 H2 y c2 w x2 r2 rv2 p2 => hv ρ2 F2 ⟨st.env, c2⟩ σ H2 x y v w Q r2 (rv1.ext x2) rv2 p2
theorem de_op {op : Operator} {r : R2} {g : F2} (ho : OpR X (binaryOp op) r) (hv : V2 G W r g) (ha : PE X a (tE G W fa)) (hb : PE X b (tE G W fb)) : PE X (.BinOp a op b pos) (tE G W (eOp g fa fb)) :=
  (pe_op ho ha hb).impV (tOp_of hv)
theorem de_cmp {op : CmpOp} {r : R2} {g : F2} (ho : OpR X (compareOp op) r) (hv : V2 G W r g) (ha : PE X a (tE G W fa)) (hb : PE X b (tE G W fb)) (hm : behindInMarks op b = false) : PE X (.Compare a [op] [b] pos) (tE G W (eOp g fa fb)) :=
  (pe_cmpR ho ha hb hm).impV (tOp_of hv)
theorem de_un {op : UnaryOp} {r : V → Hp → VK → Prop} {g : F1} (ho : UnR X (unaryOp op) r) (hv : V1 G W r g) (ha : PE X a (tE G W fa)) : PE X (.UnaryOp op a pos) (tE G W (eUn g fa)) :=
  (pe_un ho ha).impV fun σ H Q ⟨ρ, F, st, r, p⟩ => seqX r p fun ρ1 F1 H1 x c1 v x1 r1 rv1 p1 => hv ρ1 F1 ⟨st.env, c1⟩ σ H1 x v Q r1 rv1 p1
end
end VL

namespace VL
open PySem L2
section
variable {X : Cx} {G : Gx} {W : WX} {a b : Expr} {fa fb : Ex} {pos : Pos}
/-! ### arithmetic -/
def gInt (C : Int → Int → Bool) (g : Int → Int → Int) : F2 := fun cs x y => match x, y with
  | .int i, .int j => if C i j then .ok (.int (g i j)) cs else .no
  | _, _ => .no
theorem v2_int {C : Int → Int → Bool} {C' : Int → Int → Prop} {g : Int → Int → Int} (h : ∀ i j, C i j = true → C' i j) : V2 G W (rI C' fun i j => .int (g i j)) (gInt C g) := by
  intro ρ F st σ H x y v w Q r h1 h2 p
  unfold gInt at p
  split at p
  case h_2 => exact p.elim
  cases h1; cases h2
  rename_i i j
  by_cases c : C i j = true
  · simp only [c, if_true] at p
    exact ⟨i, j, rfl, rfl, h i j c, p.here r (.int _)⟩
  · simp only [c, if_false] at p
    exact p.elim
def gSub : F2 := gInt (fun _ _ => true) fun i j => i - j
theorem v2_sub : V2 G W (rI (fun _ _ => True) fun i j => .int (i - j)) gSub := v2_int fun _ _ _ => trivial
theorem op_sub' : OpR X (binaryOp .Sub) (rI (fun _ _ => True) fun i j => .int (i - j)) := fun pins s σ H x y v u Q I rx ry ⟨i, j, e1, e2, _, q⟩ => op_sub pins s σ H x y v u Q I rx ry ⟨i, j, e1, e2, q⟩
theorem de_sub (ha : PE X a (tE G W fa)) (hb : PE X b (tE G W fb)) : PE X (.BinOp a .Sub b pos) (tE G W (eOp gSub fa fb)) := de_op op_sub' v2_sub ha hb
def cMul (i j : Int) : Bool := decide (-(2 ^ 64) < i) && decide (i < 2 ^ 64) || decide (-(2 ^ 64) < j) && decide (j < 2 ^ 64)
def cDiv (_ j : Int) : Bool := decide (0 < j) && decide (j < 1073741824)
def cMod (_ j : Int) : Bool := decide (0 < j)
def cPow (i j : Int) : Bool := decide (0 ≤ j) && decide (j ≤ 1000000) && decide (i.natAbs < 2 ^ 64)
def gFdiv : F2 := gInt cDiv fun i j => i / j
theorem de_fdiv (ha : PE X a (tE G W fa)) (hb : PE X b (tE G W fb)) : PE X (.BinOp a .FloorDiv b pos) (tE G W (eOp gFdiv fa fb)) :=
  de_op op_fdiv (v2_int fun i j c => by simpa [cDiv, CDiv] using c) ha hb
def gPow : F2 := gInt cPow fun i j => i ^ j.toNat
theorem de_pow (ha : PE X a (tE G W fa)) (hb : PE X b (tE G W fb)) : PE X (.BinOp a .Pow b pos) (tE G W (eOp gPow fa fb)) :=
  de_op op_pow (v2_int fun i j c => by
    simp only [cPow, Bool.and_eq_true, decide_eq_true_eq] at c
    exact ⟨c.1.1, c.1.2, c.2⟩) ha hb
def gMod : F2 := gInt cMod fun i j => i % j
theorem de_mod (ha : PE X a (tE G W fa)) (hb : PE X b (tE G W fb)) : PE X (.BinOp a .Mod b pos) (tE G W (eOp gMod fa fb)) :=
  de_op op_mod (v2_int fun i j c => by simpa [cMod] using c) ha hb
def gNeg : F1 := fun cs x => match x with
  | .int i => .ok (.int (-i)) cs
  | _ => .no
theorem de_neg (ha : PE X a (tE G W fa)) : PE X (.UnaryOp .USub a pos) (tE G W (eUn gNeg fa)) := de_un un_neg (by
  intro ρ F st σ H x v Q r h1 p
  cases h1 <;> try exact p.elim
  exact ⟨_, rfl, p.here r (.int _)⟩) ha

/-! ### + and * of anything -/
/-- a list of one's own making -/
def ownOf (cs : List Cell) : D → Option (List D)
  | .lst ds => some ds
  | .loc n => match cs[n]? with
    | some (.lst ds) => some ds
    | _ => none
  | _ => none
theorem own_read {ρ : List Addr} {F : Hp} {st : S} {σ : St} {H : Hp} {x : D} {v : V} {ds : List D} (r : Rel G ρ F st σ H) (h : RV G.K ρ F x v) (e : ownOf st.cs x = some ds) : ∃ a vs, v = .ref a ∧ H a = some (.lst vs) ∧ RVs G.K ρ F ds vs := by
  cases h with
  | lst h1 h2 =>
    cases e
    exact ⟨_, _, rfl, r.fz _ _ h1, h2⟩
  | loc h1 =>
    rename_i n a
    have e : (match st.cs[n]? with
      | some (.lst ds) => some ds
      | _ => none) = some ds := e
    cases q : st.cs[n]? with
    | none => rw [q] at e; cases e
    | some c =>
      rw [q] at e
      cases c with
      | lst es =>
        cases e
        obtain ⟨vs, h2, h3⟩ := r.cell n _ _ q h1
        exact ⟨_, _, rfl, h2, h3⟩
      | _ => cases e
  | _ => cases e
def gCatL : F2 := fun cs x y => match ownOf cs x, ownOf cs y with
  | some xs, some ys => if xs.length + ys.length ≤ 16777216 then .ok (.lst (xs ++ ys)) cs else .no
  | _, _ => .no
def gAdd : F2 := fun cs x y => match x, y with
  | .int i, .int j => .ok (.int (i + j)) cs
  | .str i, .str j => if i.length + j.length ≤ 16777216 then .ok (.str (i ++ j)) cs else .no
  | .tup xs, .tup ys => if xs.length + ys.length ≤ 16777216 then .ok (.tup (xs ++ ys)) cs else .no
  | x, y => gCatL cs x y
theorem line_of {n : Nat} (h : n ≤ 16777216) : n ≤ sizeLine := by rw [sizeLine_eq]; exact h
theorem catL_of {ρ : List Addr} {F : Hp} {st : S} {σ : St} {H : Hp} {x y : D} {v w : V} {Q : VK} (r : Rel G ρ F st σ H) (h1 : RV G.K ρ F x v) (h2 : RV G.K ρ F y w) (p : Post RV G W ρ F st.env σ Q (gCatL st.cs x y)) : rCat v w H Q := by
  unfold gCatL at p
  cases e1 : ownOf st.cs x with
  | none => simp only [e1] at p; exact p.elim
  | some xs =>
    cases e2 : ownOf st.cs y with
    | none => simp only [e1, e2] at p; exact p.elim
    | some ys =>
      simp only [e1, e2] at p
      obtain ⟨a1, vs, rfl, s1, r1⟩ := own_read r h1 e1
      obtain ⟨a2, ws, rfl, s2, r2⟩ := own_read r h2 e2
      by_cases c : xs.length + ys.length ≤ 16777216
      · simp only [c, if_true] at p
        refine ⟨a1, a2, vs, ws, rfl, rfl, s1, s2, line_of (by rw [← r1.length, ← r2.length]; exact c), fun q hq => ?_⟩
        obtain ⟨x1, r3⟩ := r.fresh (o := .lst (vs ++ ws)) hq
        exact p _ _ _ _ x1 r3 (.lst upd_same ((r1.append r2).ext x1))
      · simp only [c, if_false] at p
        exact p.elim
def rAddA (K : PySem.W.Frag) : R2 := fun x y H Q => (rI0 (fun i j => .int (i + j)) x y H Q ∨ (∃ i j, x = .str i ∧ y = .str j ∧ i.length + j.length ≤ sizeLine ∧ Q (.str (i ++ j)) H)) ∨ (rCatA K x y H Q ∨ rCat x y H Q)
theorem op_addA : OpR X (binaryOp .Add) (rAddA X.K) := (op_add.or op_add_str).or (op_catA.or op_cat)
theorem v2_add : V2 G W (rAddA G.K.K) gAdd := by
  intro ρ F st σ H x y v w Q r h1 h2 p
  unfold gAdd at p
  split at p
  · cases h1; cases h2
    exact .inl (.inl ⟨_, _, rfl, rfl, p.here r (.int _)⟩)
  · cases h1; cases h2
    rename_i i j
    by_cases c : i.length + j.length ≤ 16777216
    · simp only [c, if_true] at p
      exact .inl (.inr ⟨_, _, rfl, rfl, line_of c, p.here r (.str _)⟩)
    · simp only [c, if_false] at p
      exact p.elim
  · rename_i xs ys
    by_cases c : xs.length + ys.length ≤ 16777216
    · simp only [c, if_true] at p
      obtain ⟨a1, vs, rfl, s1, r1⟩ := tup_read r h1 rfl
      obtain ⟨a2, ws, rfl, s2, r2⟩ := tup_read r h2 rfl
      refine .inr (.inl ⟨a1, a2, vs, ws, rfl, rfl, s1, s2, line_of (by rw [← r1.length, ← r2.length]; exact c), fun e => ?_, fun _ e => ?_, fun _ _ q hq => ?_⟩)
      · subst e
        cases r1
        exact p.here r h2
      · subst e
        cases r2
        rw [List.append_nil] at p
        exact p.here r h1
      · obtain ⟨x1, r3⟩ := r.fresh (o := .tup (vs ++ ws)) hq
        exact p _ _ _ _ x1 r3 (.tup (SqT.of upd_same) ((r1.append r2).ext x1))
    · simp only [c, if_false] at p
      exact p.elim
  · exact .inr (.inr (catL_of r h1 h2 p))
theorem de_add (hK : X.K = G.K.K) (ha : PE X a (tE G W fa)) (hb : PE X b (tE G W fb)) : PE X (.BinOp a .Add b pos) (tE G W (eOp gAdd fa fb)) := de_op op_addA (by rw [hK]; exact v2_add) ha hb
def gMul : F2 := fun cs x y => match x, y with
  | .int i, .int j => if cMul i j then .ok (.int (i * j)) cs else .no
  | x, .int k => match ownOf cs x with
    | some xs => if 0 ≤ k ∧ k ≤ 16777216 ∧ xs.length * k.toNat ≤ 16777216 then .ok (.lst (List.replicate k.toNat xs).flatten) cs else .no
    | none => .no
  | _, _ => .no
theorem RVs.rep {K : Kt} {ρ : List Addr} {F : Hp} {ds : List D} {vs : List V} (h : RVs K ρ F ds vs) : ∀ n : Nat, RVs K ρ F (List.replicate n ds).flatten (List.replicate n vs).flatten
  | 0 => .nil
  | n + 1 => by
    rw [List.replicate_succ, List.replicate_succ, List.flatten_cons, List.flatten_cons]
    exact h.append (RVs.rep h n)
theorem v2_mul : V2 G W (fun x y H Q => rI CMul (fun i j => .int (i * j)) x y H Q ∨ rRep x y H Q) gMul := by
  intro ρ F st σ H x y v w Q r h1 h2 p
  unfold gMul at p
  split at p
  · cases h1; cases h2
    rename_i i j
    by_cases c : cMul i j = true
    · simp only [c, if_true] at p
      refine .inl ⟨_, _, rfl, rfl, ?_, p.here r (.int _)⟩
      simp only [cMul, Bool.or_eq_true, Bool.and_eq_true, decide_eq_true_eq] at c
      exact c
    · simp only [c, if_false] at p
      exact p.elim
  · rename_i k _
    cases h2
    cases e1 : ownOf st.cs x with
    | none => simp only [e1] at p; exact p.elim
    | some xs =>
      simp only [e1] at p
      obtain ⟨a1, vs, rfl, s1, r1⟩ := own_read r h1 e1
      by_cases c : 0 ≤ k ∧ k ≤ 16777216 ∧ xs.length * k.toNat ≤ 16777216
      · simp only [c, if_true] at p
        refine .inr ⟨a1, k, vs, rfl, rfl, s1, by omega, by omega, line_of (by rw [← r1.length]; exact c.2.2), fun q hq => ?_⟩
        obtain ⟨x1, r3⟩ := r.fresh (o := .lst (List.replicate k.toNat vs).flatten) hq
        exact p _ _ _ _ x1 r3 (.lst upd_same ((r1.rep k.toNat).ext x1))
      · simp only [c, if_false] at p
        exact p.elim
  · exact p.elim
theorem de_mul (ha : PE X a (tE G W fa)) (hb : PE X b (tE G W fb)) : PE X (.BinOp a .Mult b pos) (tE G W (eOp gMul fa fb)) := de_op (op_mul.or op_rep) v2_mul ha hb

/-! ### deep == -/
mutual
def py : D → PyData
  | .non => .none
  | .bl b => .bool b
  | .int i => .int i
  | .str x => .str x
  | .tup ds => .tuple (pys ds)
  | .lst ds => .list (pys ds)
  | .frl ds => .list (pys ds)
  | .obj _ _ _ => .none
  | .loc _ => .none
def pys : List D → List PyData
  | [] => []
  | d :: r => py d :: pys r
end
mutual
def plain : D → Bool
  | .non => true
  | .bl _ => true
  | .int _ => true
  | .str _ => true
  | .tup ds => plains ds
  | .lst ds => plains ds
  | .frl ds => plains ds
  | .obj _ _ _ => false
  | .loc _ => false
def plains : List D → Bool
  | [] => true
  | d :: r => plain d && plains r
end
mutual
theorem dp_of {K : Kt} {ρ : List Addr} {F H : Hp} (s : Same F H) : ∀ {d : D} {v : V}, RV K ρ F d v → plain d = true → Dp K.K H v (py d)
  | _, _, .non, _ => .non
  | _, _, .bl b, _ => .bl b
  | _, _, .int i, _ => .int i
  | _, _, .str x, _ => .str x
  | _, _, .tup h r, e => .tup (sqT_same s h) (dps_of s r (by simpa [plain] using e))
  | _, _, .lst h r, e => .lst (SqL.of (s _ _ h)) (dps_of s r (by simpa [plain] using e))
  | _, _, .frl h r, e => .lst (s.seq h) (dps_of s r (by simpa [plain] using e))
theorem dps_of {K : Kt} {ρ : List Addr} {F H : Hp} (s : Same F H) : ∀ {ds : List D} {vs : List V}, RVs K ρ F ds vs → plains ds = true → DpAll K.K H vs (pys ds)
  | _, _, .nil, _ => .nil
  | _, _, .cons h r, e => by
    simp only [plains, Bool.and_eq_true] at e
    exact .cons (dp_of s h e.1) (dps_of s r e.2)
end
/-- what stands there, a cell opened -/
def norm (cs : List Cell) : D → D
  | .loc n => match cs[n]? with
    | some (.lst ds) => .lst ds
    | _ => .loc n
  | d => d
theorem dp_norm {ρ : List Addr} {F : Hp} {st : S} {σ : St} {H : Hp} {x : D} {v : V} (r : Rel G ρ F st σ H) (h : RV G.K ρ F x v) (e : plain (norm st.cs x) = true) : Dp G.K.K H v (py (norm st.cs x)) := by
  cases h with
  | loc h1 =>
    rename_i n a
    unfold norm at e ⊢
    simp only at e ⊢
    cases q : st.cs[n]? with
    | none => simp only [q, plain] at e; cases e
    | some c =>
      cases c with
      | lst es =>
        obtain ⟨vs, h2, h3⟩ := r.cell n _ _ q h1
        simp only [q, plain, py] at e ⊢
        exact .lst (SqL.of h2) (dps_of r.fz h3 e)
      | dk _ _ => simp only [q, plain] at e; cases e
      | ins _ _ _ => simp only [q, plain] at e; cases e
  | non => exact .non
  | bl b => exact .bl b
  | int i => exact .int i
  | str x => exact .str x
  | tup h r' => exact dp_of r.fz (.tup h r') e
  | lst h r' => exact dp_of r.fz (.lst h r') e
  | frl h r' => exact dp_of r.fz (.frl h r') e
  | obj => cases e
def gEqB (neg : Bool) : F2 := fun cs x y =>
  let p := norm cs x
  let q := norm cs y
  if plain p && plain q && SeqAt.shaped (py p) && SeqAt.shaped (py q) then .ok (.bl (if neg then !PyData.eqv (py p) (py q) else PyData.eqv (py p) (py q))) cs else .no
theorem v2_eq : V2 G W (rEqD G.K.K) (gEqB false) := by
  intro ρ F st σ H x y v w Q r h1 h2 p
  unfold gEqB at p
  by_cases c : (plain (norm st.cs x) && plain (norm st.cs y) && SeqAt.shaped (py (norm st.cs x)) && SeqAt.shaped (py (norm st.cs y))) = true
  · simp only [c, if_true] at p
    simp only [Bool.and_eq_true] at c
    exact ⟨_, _, dp_norm r h1 c.1.1.1, dp_norm r h2 c.1.1.2, c.1.2, c.2, p.here r (.bl _)⟩
  · simp only [c, if_false] at p
    exact p.elim
theorem v2_ne : V2 G W (rNeD G.K.K) (gEqB true) := by
  intro ρ F st σ H x y v w Q r h1 h2 p
  unfold gEqB at p
  by_cases c : (plain (norm st.cs x) && plain (norm st.cs y) && SeqAt.shaped (py (norm st.cs x)) && SeqAt.shaped (py (norm st.cs y))) = true
  · simp only [c, if_true] at p
    simp only [Bool.and_eq_true] at c
    exact ⟨_, _, dp_norm r h1 c.1.1.1, dp_norm r h2 c.1.1.2, c.1.2, c.2, p.here r (.bl _)⟩
  · simp only [c, if_false] at p
    exact p.elim
theorem de_eq (hK : X.K = G.K.K) (hu : X.A.units + 64 < cLine) (ha : PE X a (tE G W fa)) (hb : PE X b (tE G W fb)) : PE X (.Compare a [.Eq] [b] pos) (tE G W (eOp (gEqB false) fa fb)) := de_cmp (op_eqD hu) (by rw [hK]; exact v2_eq) ha hb (nomark _)
theorem de_ne (hK : X.K = G.K.K) (hu : X.A.units + 64 < cLine) (ha : PE X a (tE G W fa)) (hb : PE X b (tE G W fb)) : PE X (.Compare a [.NotEq] [b] pos) (tE G W (eOp (gEqB true) fa fb)) := de_cmp (op_neD hu) (by rw [hK]; exact v2_ne) ha hb (nomark _)

/-! ### order, is -/
def gOrd (g : Int → Int → Bool) (h : List Nat → List Nat → Bool) : F2 := fun cs x y => match x, y with
  | .int i, .int j => .ok (.bl (g i j)) cs
  | .str i, .str j => .ok (.bl (h i.cps.toList j.cps.toList)) cs
  | _, _ => .no
theorem v2_ord {g : Int → Int → Bool} {h : List Nat → List Nat → Bool} : V2 G W (fun x y H Q => rI0 (fun i j => .bl (g i j)) x y H Q ∨ ∃ i j, x = .str i ∧ y = .str j ∧ Q (.bl (h i.cps.toList j.cps.toList)) H) (gOrd g h) := by
  intro ρ F st σ H x y v w Q r h1 h2 p
  unfold gOrd at p
  split at p
  · cases h1; cases h2
    exact .inl ⟨_, _, rfl, rfl, p.here r (.bl _)⟩
  · cases h1; cases h2
    exact .inr ⟨_, _, rfl, rfl, p.here r (.bl _)⟩
  · exact p.elim
def gLt : F2 := gOrd (fun i j => decide (i < j)) fun i j => decide (i < j)
def gLe : F2 := gOrd (fun i j => decide (i ≤ j)) fun i j => !decide (j < i)
def gGt : F2 := gOrd (fun i j => decide (j < i)) fun i j => decide (j < i)
def gGe : F2 := gOrd (fun i j => decide (j ≤ i)) fun i j => !decide (i < j)
theorem de_lt (ha : PE X a (tE G W fa)) (hb : PE X b (tE G W fb)) : PE X (.Compare a [.Lt] [b] pos) (tE G W (eOp gLt fa fb)) := de_cmp (op_lt.or op_lt_str) v2_ord ha hb (nomark _)
theorem de_le (ha : PE X a (tE G W fa)) (hb : PE X b (tE G W fb)) : PE X (.Compare a [.LtE] [b] pos) (tE G W (eOp gLe fa fb)) := de_cmp (op_le.or op_le_str) v2_ord ha hb (nomark _)
theorem de_gt (ha : PE X a (tE G W fa)) (hb : PE X b (tE G W fb)) : PE X (.Compare a [.Gt] [b] pos) (tE G W (eOp gGt fa fb)) := de_cmp (op_gt.or op_gt_str) v2_ord ha hb (nomark _)
theorem de_ge (ha : PE X a (tE G W fa)) (hb : PE X b (tE G W fb)) : PE X (.Compare a [.GtE] [b] pos) (tE G W (eOp gGe fa fb)) := de_cmp (op_ge.or op_ge_str) v2_ord ha hb (nomark _)
def isNon : D → Bool
  | .non => true
  | _ => false
theorem isNon_of {K : Kt} {ρ : List Addr} {F : Hp} {d : D} {v : V} (h : RV K ρ F d v) : decide (v = .non) = isNon d := by
  cases h <;> first | rfl | (exact decide_eq_false (fun z => nomatch z))
def gIs (neg : Bool) : F2 := fun cs x y => match x, y with
  | x, .non => .ok (.bl (if neg then !isNon x else isNon x)) cs
  | .bl i, .bl j => .ok (.bl (if neg then !decide (i = j) else decide (i = j))) cs
  | _, _ => .no
theorem de_is (ha : PE X a (tE G W fa)) (hb : PE X b (tE G W fb)) : PE X (.Compare a [.Is] [b] pos) (tE G W (eOp (gIs false) fa fb)) := de_cmp (op_isN.or op_isBl) (by
  intro ρ F st σ H x y v w Q r h1 h2 p
  unfold gIs at p
  split at p
  · cases h2
    refine .inl ⟨rfl, ?_⟩
    rw [isNon_of h1]
    exact p.here r (.bl _)
  · cases h1; cases h2
    exact .inr ⟨_, _, rfl, rfl, p.here r (.bl _)⟩
  · exact p.elim) ha hb (nomark _)
theorem de_isnot (ha : PE X a (tE G W fa)) (hb : PE X b (tE G W fb)) : PE X (.Compare a [.IsNot] [b] pos) (tE G W (eOp (gIs true) fa fb)) := de_cmp (op_notN.or op_notBl) (by
  intro ρ F st σ H x y v w Q r h1 h2 p
  unfold gIs at p
  split at p
  · cases h2
    refine .inl ⟨rfl, ?_⟩
    rw [isNon_of h1]
    exact p.here r (.bl _)
  · cases h1; cases h2
    exact .inr ⟨_, _, rfl, rfl, p.here r (.bl _)⟩
  · exact p.elim) ha hb (nomark _)

/-! ### in -/
def flatD : D → Bool
  | .non => true
  | .bl _ => true
  | .int _ => true
  | .str _ => true
  | _ => false
def eqF : D → D → Bool
  | .non, .non => true
  | .bl a, .bl b => a == b
  | .bl a, .int b => (if a then 1 else 0) == b
  | .int a, .bl b => a == (if b then 1 else 0)
  | .int a, .int b => a == b
  | .str a, .str b => a == b
  | _, _ => false
theorem flat_of {K : Kt} {ρ : List Addr} {F : Hp} {d : D} {v : V} (h : RV K ρ F d v) (e : flatD d = true) : flatV v = true := by
  cases h <;> first | rfl | cases e
theorem eqF_of {K : Kt} {ρ : List Addr} {F : Hp} {d d' : D} {v v' : V} (h : RV K ρ F d v) (h' : RV K ρ F d' v') (e : flatD d = true) (e' : flatD d' = true) : eqV v v' = eqF d d' := by
  cases h with
  | non => cases h' with
    | non => rfl
    | bl => rfl
    | int => rfl
    | str => rfl
    | _ => exact Bool.noConfusion e'
  | bl => cases h' with
    | non => rfl
    | bl => rfl
    | int => rfl
    | str => rfl
    | _ => exact Bool.noConfusion e'
  | int => cases h' with
    | non => rfl
    | bl => rfl
    | int => rfl
    | str => rfl
    | _ => exact Bool.noConfusion e'
  | str => cases h' with
    | non => rfl
    | bl => rfl
    | int => rfl
    | str => rfl
    | _ => exact Bool.noConfusion e'
  | _ => exact Bool.noConfusion e
def inD (x : D) (ds : List D) : Bool := ds.any fun y => eqF y x
theorem inD_of {K : Kt} {ρ : List Addr} {F : Hp} {d : D} {v : V} (h : RV K ρ F d v) (e : flatD d = true) : ∀ {ds : List D} {vs : List V}, RVs K ρ F ds vs → ds.all flatD = true → vs.all flatV = true ∧ inV v vs = inD d ds
  | _, _, .nil, _ => ⟨rfl, rfl⟩
  | _, _, .cons h' r, f => by
    rw [List.all_cons, Bool.and_eq_true] at f
    obtain ⟨q1, q2⟩ := inD_of h e r f.2
    refine ⟨by rw [List.all_cons, flat_of h' f.1, q1]; rfl, ?_⟩
    unfold inV inD at q2 ⊢
    rw [List.any_cons, List.any_cons, eqF_of h' h f.1 e, q2]
/-- one sign -/
def sign1 (x : Str) : Option Nat := match x.cps.toList with
  | [c] => some c
  | _ => none
def gIn (neg : Bool) : F2 := fun cs x y => match x, y with
  | .str s, .str z => match sign1 s with
    | some c => .ok (.bl (if neg then !decide (c ∈ z.cps.toList) else decide (c ∈ z.cps.toList))) cs
    | none => .no
  | x, y => match seqOf cs y with
    | some ds => if flatD x && ds.all flatD then .ok (.bl (if neg then !inD x ds else inD x ds)) cs else .no
    | none => .no
theorem sign1_eq {x : Str} {c : Nat} (h : sign1 x = some c) : x = ⟨#[c]⟩ := by
  unfold sign1 at h
  obtain ⟨⟨l⟩⟩ := x
  cases l with
  | nil => cases h
  | cons a l =>
    cases l with
    | nil => cases h; rfl
    | cons b l => cases h
theorem in_of {neg : Bool} {ρ : List Addr} {F : Hp} {st : S} {σ : St} {H : Hp} {x y : D} {v w : V} {Q : VK} (r : Rel G ρ F st σ H) (h1 : RV G.K ρ F x v) (h2 : RV G.K ρ F y w) (p : Post RV G W ρ F st.env σ Q (gIn neg st.cs x y)) :
    (∃ (c : Nat) (z : Str), v = .str ⟨#[c]⟩ ∧ w = .str z ∧ Q (.bl (if neg then !decide (c ∈ z.cps.toList) else decide (c ∈ z.cps.toList))) H) ∨ rIn G.K.K neg v w H Q := by
  unfold gIn at p
  split at p
  · cases h1; cases h2
    rename_i s z
    cases e : sign1 s with
    | none => simp only [e] at p; exact p.elim
    | some c =>
      simp only [e] at p
      have := sign1_eq e
      subst this
      exact .inl ⟨c, z, rfl, rfl, p.here r (.bl _)⟩
  · cases e : seqOf st.cs y with
    | none => simp only [e] at p; exact p.elim
    | some ds =>
      simp only [e] at p
      by_cases c : (flatD x && ds.all flatD) = true
      · simp only [c, if_true] at p
        obtain ⟨a2, ws, rfl, s2, r2⟩ := seq_read r h2 e
        rw [Bool.and_eq_true] at c
        obtain ⟨q1, q2⟩ := inD_of h1 c.1 r2 c.2
        refine .inr ⟨a2, ws, rfl, s2, flat_of h1 c.1, q1, ?_⟩
        rw [q2]
        exact p.here r (.bl _)
      · simp only [c, if_false] at p
        exact p.elim
theorem de_in (hK : X.K = G.K.K) (ha : PE X a (tE G W fa)) (hb : PE X b (tE G W fb)) (hm : behindInMarks .In b = false := by rfl) : PE X (.Compare a [.In] [b] pos) (tE G W (eOp (gIn false) fa fb)) :=
  de_cmp (op_in_sign.or op_in_seq) (by rw [hK]; exact fun ρ F st σ H x y v w Q r h1 h2 p => in_of r h1 h2 p) ha hb hm
theorem de_notin (hK : X.K = G.K.K) (ha : PE X a (tE G W fa)) (hb : PE X b (tE G W fb)) (hm : behindInMarks .NotIn b = false := by rfl) : PE X (.Compare a [.NotIn] [b] pos) (tE G W (eOp (gIn true) fa fb)) :=
  de_cmp (op_notIn_sign.or op_notIn_seq) (by rw [hK]; exact fun ρ F st σ H x y v w Q r h1 h2 p => in_of r h1 h2 p) ha hb hm
end
end VL

namespace VL
open PySem L2
section
variable {X : Cx} {G : Gx} {W : WX} {a b c e : Expr} {es : List Expr} {fa fb fc : Ex} {pos : Pos}
/-! ### arguments, displays -/
abbrev Ax := S → Out (List D)
def aNil : Ax := fun st => .ok [] st.cs
def aCons (f : Ex) (g : Ax) : Ax := fun st => (f st).bind fun x c1 => (g ⟨st.env, c1⟩).bind fun xs c2 => .ok (x :: xs) c2
theorem da_nil : PA X [] (tAs G W aNil) := pa_nil.impV fun σ H Q ⟨ρ, F, st, r, p⟩ => p.here r .nil
theorem da_cons {g : Ax} (h : PE X e (tE G W fa)) (hr : PA X es (tAs G W g)) (hs : starEach (e :: es) X.env = (false, eval e X.env) :: starEach es X.env := by rfl) : PA X (e :: es) (tAs G W (aCons fa g)) :=
  (pa_cons h hr hs).impV fun σ H Q ⟨ρ, F, st, r, p⟩ => seqX r p fun ρ1 F1 H1 x c1 v x1 r1 rv1 p1 => seqX (st := ⟨st.env, c1⟩) r1 p1 fun ρ2 F2 H2 xs c2 vs x2 r2 rv2 p2 => p2.here (st := ⟨st.env, c2⟩) r2 (.cons (rv1.ext x2) rv2)
def eTup (g : Ax) : Ex := fun st => (g st).bind fun xs c1 => if xs.length ≤ 16777216 then .ok (.tup xs) c1 else .no
theorem de_tup {g : Ax} {x1} (h : PA X es (tAs G W g)) : PE X (.Tuple es x1 pos) (tE G W (eTup g)) :=
  (pe_tup h).impV fun σ H Q ⟨ρ, F, st, r, p⟩ => seqX r p fun ρ1 F1 H1 xs c1 vs x1 r1 rv1 p1 => by
    by_cases c : xs.length ≤ 16777216
    · simp only [c, if_true] at p1
      refine ⟨line_of (by rw [← rv1.length]; exact c), fun q hq => ?_⟩
      obtain ⟨x2, r2⟩ := r1.fresh (o := .tup vs) hq
      exact p1 _ _ _ _ x2 r2 (.tup (SqT.of upd_same) (rv1.ext x2))
    · simp only [c, if_false] at p1
      exact p1.elim
/-- a list that stays as it is -/
def eLst (g : Ax) : Ex := fun st => (g st).bind fun xs c1 => if xs.length ≤ 16777216 then .ok (.lst xs) c1 else .no
theorem de_lst {g : Ax} (h : PA X es (tAs G W g)) : PE X (.List es pos) (tE G W (eLst g)) :=
  (pe_lst h).impV fun σ H Q ⟨ρ, F, st, r, p⟩ => seqX r p fun ρ1 F1 H1 xs c1 vs x1 r1 rv1 p1 => by
    by_cases c : xs.length ≤ 16777216
    · simp only [c, if_true] at p1
      refine ⟨line_of (by rw [← rv1.length]; exact c), fun q hq => ?_⟩
      obtain ⟨x2, r2⟩ := r1.fresh (o := .lst vs) hq
      exact p1 _ _ _ _ x2 r2 (.lst upd_same (rv1.ext x2))
    · simp only [c, if_false] at p1
      exact p1.elim
/-- a new own cell -/
def newCell (ds : List D) (cs : List Cell) : Out D := .ok (.loc cs.length) (cs ++ [.lst ds])
theorem newCell_of {ρ : List Addr} {F : Hp} {st : S} {σ : St} {H : Hp} {ds : List D} {vs : List V} {q : Addr} {Q : VK} (r : Rel G ρ F st σ H) (rv : RVs G.K ρ F ds vs) (hq : H q = none) (p : Post RV G W ρ F st.env σ Q (newCell ds st.cs)) : Q (.ref q) (upd H q (.lst vs)) := by
  have y : Ext ρ F (ρ ++ [q]) F := ⟨List.prefix_append _ _, Same.refl _⟩
  obtain ⟨x2, r2⟩ := r.cellNew (p := q) (o := .lst vs) (c := .lst ds) hq ⟨vs, upd_same, rv.ext y⟩
  refine p _ _ _ _ x2 r2 (.loc ?_)
  rw [← r.cl, List.getElem?_append_right (Nat.le_refl _), Nat.sub_self]
  rfl
def eLoc (g : Ax) : Ex := fun st => (g st).bind fun xs c1 => if xs.length ≤ 16777216 then newCell xs c1 else .no
theorem de_loc {g : Ax} (h : PA X es (tAs G W g)) : PE X (.List es pos) (tE G W (eLoc g)) :=
  (pe_lst h).impV fun σ H Q ⟨ρ, F, st, r, p⟩ => seqX r p fun ρ1 F1 H1 xs c1 vs x1 r1 rv1 p1 => by
    by_cases c : xs.length ≤ 16777216
    · simp only [c, if_true] at p1
      exact ⟨line_of (by rw [← rv1.length]; exact c), fun q hq => newCell_of (st := ⟨st.env, c1⟩) r1 rv1 hq p1⟩
    · simp only [c, if_false] at p1
      exact p1.elim
/-! ### subscripts -/
def gIx : F2 := fun cs x y => match x, y with
  | .str z, .int i => if z.length ≤ 16777216 then (match atI z.cps.toList i with
    | some c => .ok (.str ⟨#[c]⟩) cs
    | none => .no) else .no
  | x, .int i => match seqOf cs x with
    | some ds => (match atI ds i with
      | some d => .ok d cs
      | none => .no)
    | none => .no
  | _, _ => .no
theorem atI_rel {K : Kt} {ρ : List Addr} {F : Hp} {ds : List D} {vs : List V} {i : Int} {d : D} (r : RVs K ρ F ds vs) (h : atI ds i = some d) : ∃ v, atI vs i = some v ∧ RV K ρ F d v := by
  unfold atI at h ⊢
  rw [← r.length]
  cases q : ixN ds.length i with
  | none => rw [q] at h; cases h
  | some j =>
    rw [q] at h
    exact r.get h
theorem v2_ix : V2 G W (rIx G.K.K) gIx := by
  intro ρ F st σ H x y v w Q r h1 h2 p
  unfold gIx at p
  split at p
  · cases h1; cases h2
    rename_i z i
    by_cases c : z.length ≤ 16777216
    · simp only [c, if_true] at p
      cases q : atI z.cps.toList i with
      | none => simp only [q] at p; exact p.elim
      | some k =>
        simp only [q] at p
        exact .inr (.inr ⟨_, _, k, rfl, rfl, line_of c, q, p.here r (.str _)⟩)
    · simp only [c, if_false] at p
      exact p.elim
  · cases h2
    rename_i i _
    cases q : seqOf st.cs x with
    | none => simp only [q] at p; exact p.elim
    | some ds =>
      simp only [q] at p
      cases q2 : atI ds i with
      | none => simp only [q2] at p; exact p.elim
      | some d =>
        simp only [q2] at p
        obtain ⟨a2, ws, rfl, s2, r2⟩ := seq_read r h1 q
        obtain ⟨u, e1, e2⟩ := atI_rel r2 q2
        rcases s2 with s2 | s2
        · exact .inl ⟨_, _, _, u, rfl, rfl, s2, e1, p.here r e2⟩
        · exact .inr (.inl ⟨_, _, _, u, rfl, rfl, s2, e1, p.here r e2⟩)
  · exact p.elim
theorem de_ix (hK : X.K = G.K.K) (ha : PE X a (tE G W fa)) (hb : PE X b (tE G W fb)) (hs : PlainIx b := by intro _ _; rfl) : PE X (.Subscript a b pos) (tE G W (eOp gIx fa fb)) := by
  refine (pe_ix ix_seq ha hb hs).impV (tOp_of ?_)
  rw [hK]
  exact v2_ix
/-! ### slices -/
def cutD (xs : List D) (lo hi : Option Int) : List D := (xs.drop (HT.sIx xs.length 0 lo)).take (HT.sIx xs.length xs.length hi - HT.sIx xs.length 0 lo)
theorem cut_rel {K : Kt} {ρ : List Addr} {F : Hp} {ds : List D} {vs : List V} {lo hi : Option Int} (r : RVs K ρ F ds vs) : RVs K ρ F (cutD ds lo hi) (cutV vs lo hi) := by
  unfold cutD cutV
  rw [r.length]
  exact (r.drop _).take _
def RO (_ : Kt) (_ : List Addr) (_ : Hp) (a b : Option Int) : Prop := a = b
abbrev tOs := @tX (Option Int) (Option Int) RO
abbrev Ox := S → Out (Option Int)
def oNone : Ox := fun st => .ok none st.cs
def oSome (f : Ex) : Ox := fun st => (f st).bind fun x c1 => match x with
  | .int i => .ok (some i) c1
  | _ => .no
theorem _root_.L2.PO.impV {X : Cx} {e : Option Expr} {t t' : TO} (h : PO X e t) (m : ∀ σ H Q, t' σ H Q → t σ H Q) : PO X e t' := ⟨fun pins s σ H Q I hw => h.run pins s σ H Q I (m _ _ _ hw)⟩
theorem do_none : PO X none (tOs G W oNone) := po_none.impV fun σ H Q ⟨ρ, F, st, r, p⟩ => p.here r rfl
theorem do_some (h : PE X e (tE G W fa)) : PO X (some e) (tOs G W (oSome fa)) := (po_some h).impV fun σ H Q ⟨ρ, F, st, r, p⟩ => seqX r p fun ρ1 F1 H1 x c1 v x1 r1 rv1 p1 => by
  cases rv1 <;> first
    | exact ⟨_, rfl, p1.here (st := ⟨st.env, c1⟩) r1 rfl⟩
    | exact p1.elim
/-- a slice; new: an own cell of a list's -/
def gSl (own : Bool) (cs : List Cell) (x : D) (lo hi : Option Int) : Out D := match x with
  | .str z => if z.length ≤ 16777216 then .ok (.str (cutS z lo hi)) cs else .no
  | .tup xs => .ok (.tup (cutD xs lo hi)) cs
  | x => match lstOf cs x with
    | some xs => if own then newCell (cutD xs lo hi) cs else .ok (.lst (cutD xs lo hi)) cs
    | none => .no
def eSl (own : Bool) (f : Ex) (l h : Ox) : Ex := fun st => (f st).bind fun x c1 => (l ⟨st.env, c1⟩).bind fun lo c2 => (h ⟨st.env, c2⟩).bind fun hi c3 => gSl own c3 x lo hi
def rSlAny (K : PySem.W.Frag) : V → Option Int → Option Int → Hp → VK → Prop := fun x lo hi H Q => rSlS x lo hi H Q ∨ (rSlA K x lo hi H Q ∨ rSlL K x lo hi H Q)
theorem sl_any : SlR X (rSlAny X.K) := SlR.or sl_str (SlR.or sl_tupA sl_list)
theorem cut_whole {K : PySem.W.Frag} {vs : List V} {lo hi : Option Int} (h : HT.sIx vs.length 0 lo = 0 ∧ HT.sIx vs.length vs.length hi = vs.length) : cutV vs lo hi = vs := by
  unfold cutV
  rw [h.1, h.2, List.drop_zero, Nat.sub_zero, List.take_length]
theorem sl_of {own : Bool} {ρ : List Addr} {F : Hp} {st : S} {σ : St} {H : Hp} {x : D} {v : V} {lo hi : Option Int} {Q : VK} (r : Rel G ρ F st σ H) (h1 : RV G.K ρ F x v) (p : Post RV G W ρ F st.env σ Q (gSl own st.cs x lo hi)) : rSlAny G.K.K v lo hi H Q := by
  unfold gSl at p
  split at p
  · cases h1
    rename_i z
    by_cases c : z.length ≤ 16777216
    · simp only [c, if_true] at p
      exact .inl ⟨_, rfl, line_of c, p.here r (.str _)⟩
    · simp only [c, if_false] at p
      exact p.elim
  · rename_i xs
    obtain ⟨a2, ws, rfl, s2, r2⟩ := tup_read r h1 rfl
    refine .inr (.inl ⟨a2, ws, rfl, s2, fun hw => ?_, fun hw q hq => ?_⟩)
    · have e1 : cutD xs lo hi = xs := by
        unfold cutD
        rw [r2.length, hw.1, hw.2, List.drop_zero, Nat.sub_zero, ← r2.length, List.take_length]
      rw [e1] at p
      exact p.here r h1
    · obtain ⟨x2, r3⟩ := r.fresh (o := .tup (cutV ws lo hi)) hq
      exact p _ _ _ _ x2 r3 (.tup (SqT.of upd_same) ((cut_rel r2).ext x2))
  · cases q : lstOf st.cs x with
    | none => simp only [q] at p; exact p.elim
    | some xs =>
      simp only [q] at p
      obtain ⟨a2, ws, rfl, s2, r2⟩ := lst_read r h1 q
      refine .inr (.inr ⟨a2, ws, rfl, s2, fun q hq => ?_⟩)
      cases own with
      | true =>
        exact newCell_of r (cut_rel r2) hq p
      | false =>
        obtain ⟨x2, r3⟩ := r.fresh (o := .lst (cutV ws lo hi)) hq
        exact p _ _ _ _ x2 r3 (.lst upd_same ((cut_rel r2).ext x2))
theorem de_slice {own : Bool} {lo hi : Option Expr} {fl fh : Ox} {p2 : Pos} (hK : X.K = G.K.K) (ha : PE X a (tE G W fa)) (hl : PO X lo (tOs G W fl)) (hh : PO X hi (tOs G W fh)) : PE X (.Subscript a (.Slice lo hi none p2) pos) (tE G W (eSl own fa fl fh)) :=
  (pe_slice sl_any ha hl hh).impV fun σ H Q ⟨ρ, F, st, r, p⟩ => seqX r p fun ρ1 F1 H1 x c1 v x1 r1 rv1 p1 => seqX (R := RO) (st := ⟨st.env, c1⟩) r1 p1 fun ρ2 F2 H2 lo c2 lo' x2 r2 e2 p2 => seqX (R := RO) (st := ⟨st.env, c2⟩) r2 p2 fun ρ3 F3 H3 hi c3 hi' x3 r3 e3 p3 => by
    have e2 : lo = lo' := e2
    have e3 : hi = hi' := e3
    subst e2 e3
    rw [hK]
    exact sl_of (st := ⟨st.env, c3⟩) r3 ((rv1.ext x2).ext x3) p3
/-- xs[::-1] -/
def gRev (cs : List Cell) (x : D) : Out D := match lstOf cs x with
  | some xs => .ok (.lst xs.reverse) cs
  | none => .no
def gRevLoc (cs : List Cell) (x : D) : Out D := match lstOf cs x with
  | some xs => newCell xs.reverse cs
  | none => .no
theorem de_rev {k : Nat} {p1 p2 p3 : Pos} (hK : X.K = G.K.K) (ha : PE X a (tE G W fa)) : PE X (.Subscript a (.Slice none none (some (.UnaryOp .USub (.Constant (.int 1) k p1) p2)) p3) pos) (tE G W (eUn gRev fa)) :=
  (pe_revL ha).impV fun σ H Q ⟨ρ, F, st, r, p⟩ => seqX r p fun ρ1 F1 H1 x c1 v x1 r1 rv1 p1 => by
    unfold gRev at p1
    cases q : lstOf c1 x with
    | none => simp only [q] at p1; exact p1.elim
    | some xs =>
      simp only [q] at p1
      obtain ⟨a2, ws, rfl, s2, r2⟩ := lst_read (st := ⟨st.env, c1⟩) r1 rv1 q
      rw [hK]
      refine ⟨a2, ws, rfl, s2, fun q hq => ?_⟩
      obtain ⟨x2, r3⟩ := r1.fresh (o := .lst ws.reverse) hq
      exact p1 _ _ _ _ x2 r3 (.lst upd_same (r2.reverse.ext x2))
/-! ### truth, tests -/
def truD (cs : List Cell) : D → Option Bool
  | .non => some false
  | .bl b => some b
  | .int i => some (i != 0)
  | .str y => if y.length ≤ 16777216 then some ((y.length : Int) != 0) else none
  | d => (seqOf cs d).map fun xs => !xs.isEmpty
theorem isEmpty_len {α β : Type} {xs : List α} {ys : List β} (h : xs.length = ys.length) : xs.isEmpty = ys.isEmpty := by
  cases xs <;> cases ys <;> simp_all
theorem tru_of {ρ : List Addr} {F : Hp} {st : S} {σ : St} {H : Hp} {x : D} {v : V} {k : Bool} (r : Rel G ρ F st σ H) (h : RV G.K ρ F x v) (e : truD st.cs x = some k) : TruV G.K.K v H k := by
  have main : ∀ {y : D}, RV G.K ρ F y v → (seqOf st.cs y).map (fun xs => !xs.isEmpty) = some k → TruV G.K.K v H k := fun {y} hy e => by
    cases q : seqOf st.cs y with
    | none => rw [q] at e; cases e
    | some xs =>
      rw [q] at e
      cases e
      obtain ⟨a2, ws, rfl, s2, r2⟩ := seq_read r hy q
      rcases s2 with s2 | s2
      · exact .inl ⟨ws, s2, by show (!xs.isEmpty) = _; rw [isEmpty_len r2.length]⟩
      · exact .inr (.inl ⟨ws, s2, by show (!xs.isEmpty) = _; rw [isEmpty_len r2.length]⟩)
  cases h with
  | non => exact (Option.some.inj e).symm
  | bl b => exact (Option.some.inj e).symm
  | int i => exact (Option.some.inj e).symm
  | str y =>
    unfold truD at e
    by_cases c : y.length ≤ 16777216
    · simp only [c, if_true] at e
      exact ⟨line_of c, (Option.some.inj e).symm⟩
    · simp only [c, if_false] at e
      cases e
  | tup h1 h2 => exact main (.tup h1 h2) e
  | lst h1 h2 => exact main (.lst h1 h2) e
  | frl h1 h2 => exact main (.frl h1 h2) e
  | obj h1 h2 h3 => cases e
  | loc h1 => exact main (.loc h1) e
abbrev Tx := S → Out Bool
def tTru (f : Ex) : Tx := fun st => (f st).bind fun x c1 => match truD c1 x with
  | some k => .ok k c1
  | none => .no
theorem truStep {ρ : List Addr} {F : Hp} {st : S} {σ : St} {H : Hp} {x : D} {v : V} {β γ : Type} {R : Kt → List Addr → Hp → β → γ → Prop} {Q : γ → Hp → Prop} {kk : Bool → Out β} (r : Rel G ρ F st σ H) (h : RV G.K ρ F x v)
    (p : Post R G W ρ F st.env σ Q (match truD st.cs x with
      | some k => kk k
      | none => .no)) : ∃ k, TruV G.K.K v H k ∧ Post R G W ρ F st.env σ Q (kk k) := by
  cases q : truD st.cs x with
  | none => simp only [q] at p; exact p.elim
  | some k =>
    simp only [q] at p
    exact ⟨k, tru_of r h q, p⟩
theorem dt_tru (hK : X.K = G.K.K) (ha : PE X a (tE G W fa)) (he : ∀ whole, isTrue a X.env whole = (do let v ← whole; standAt a.pos; holding [v] (truthy v)) := by intro _; rfl) : PT X a (tTs G W (tTru fa)) :=
  (pt_truth ha he).impV fun σ H Q ⟨ρ, F, st, r, p⟩ => seqX r p fun ρ1 F1 H1 x c1 v x1 r1 rv1 p1 => by
    obtain ⟨k, t, p2⟩ := truStep (st := ⟨st.env, c1⟩) (kk := fun k => .ok k c1) r1 rv1 p1
    rw [hK]
    exact ⟨k, t, p2.here (st := ⟨st.env, c1⟩) r1 rfl⟩
def tAnd' (f g : Tx) : Tx := fun st => (f st).bind fun k c1 => if k then g ⟨st.env, c1⟩ else .ok false c1
def tOr' (f g : Tx) : Tx := fun st => (f st).bind fun k c1 => if k then .ok true c1 else g ⟨st.env, c1⟩
def tNot' (f : Tx) : Tx := fun st => (f st).bind fun k c1 => .ok (!k) c1
theorem _root_.L2.PW.impV {X : Cx} {e : Expr} {t t' : TT} (h : PW X e t) (m : ∀ σ H Q, t' σ H Q → t σ H Q) : PW X e t' := ⟨fun wh pins s σ H Q I hw => h.run wh pins s σ H Q I (m _ _ _ hw)⟩
variable {f g : Tx} {rest : List Expr}
theorem tX_of {α β : Type} {R : Kt → List Addr → Hp → α → β → Prop} {ρ : List Addr} {F : Hp} {st : S} {σ : St} {H : Hp} {f : S → Out α} {Q : β → Hp → Prop} (r : Rel G ρ F st σ H) (p : Post R G W ρ F st.env σ Q (f st)) : tX R G W f σ H Q := ⟨ρ, F, st, r, p⟩
theorem dw_and1 (ha : PT X a (tTs G W f)) : PW X (.BoolOp .And [a] pos) (tTs G W f) := pw_and1 ha
theorem dw_or1 (ha : PT X a (tTs G W f)) : PW X (.BoolOp .Or [a] pos) (tTs G W f) := pw_or1 ha
theorem dw_and (ha : PT X a (tTs G W f)) (hb : PW X (.BoolOp .And (b :: rest) pos) (tTs G W g)) : PW X (.BoolOp .And (a :: b :: rest) pos) (tTs G W (tAnd' f g)) :=
  (pw_and ha hb).impV fun σ H Q ⟨ρ, F, st, r, p⟩ => seqX (R := RB) r p fun ρ1 F1 H1 k c1 k' x1 r1 e p1 => by
    have e : k = k' := e
    subst e
    cases k with
    | true =>
      rw [if_pos rfl] at p1 ⊢
      exact tX_of (st := ⟨st.env, c1⟩) r1 p1
    | false =>
      rw [if_neg (by decide)] at p1 ⊢
      exact p1.here (st := ⟨st.env, c1⟩) r1 rfl
theorem dw_or (ha : PT X a (tTs G W f)) (hb : PW X (.BoolOp .Or (b :: rest) pos) (tTs G W g)) : PW X (.BoolOp .Or (a :: b :: rest) pos) (tTs G W (tOr' f g)) :=
  (pw_or ha hb).impV fun σ H Q ⟨ρ, F, st, r, p⟩ => seqX (R := RB) r p fun ρ1 F1 H1 k c1 k' x1 r1 e p1 => by
    have e : k = k' := e
    subst e
    cases k with
    | true =>
      rw [if_pos rfl] at p1 ⊢
      exact p1.here (st := ⟨st.env, c1⟩) r1 rfl
    | false =>
      rw [if_neg (by decide)] at p1 ⊢
      exact tX_of (st := ⟨st.env, c1⟩) r1 p1
theorem dt_w (h : PW X a (tTs G W f)) : PT X a (tTs G W f) := h.pt
theorem dt_not (ha : PT X a (tTs G W f)) : PT X (.UnaryOp .Not a pos) (tTs G W (tNot' f)) :=
  (pt_not ha).impV fun σ H Q ⟨ρ, F, st, r, p⟩ => seqX (R := RB) r p fun ρ1 F1 H1 k c1 k' x1 r1 e p1 => by
    have e : k = k' := e
    subst e
    exact p1.here (st := ⟨st.env, c1⟩) r1 rfl
def eIf (t : Tx) (fa fb : Ex) : Ex := fun st => (t st).bind fun k c1 => if k then fa ⟨st.env, c1⟩ else fb ⟨st.env, c1⟩
theorem de_if (hc : PT X c (tTs G W f)) (ha : PE X a (tE G W fa)) (hb : PE X b (tE G W fb)) : PE X (.IfExp c a b pos) (tE G W (eIf f fa fb)) :=
  (pe_ifExp hc ha hb).impV fun σ H Q ⟨ρ, F, st, r, p⟩ => seqX (R := RB) r p fun ρ1 F1 H1 k c1 k' x1 r1 e p1 => by
    have e : k = k' := e
    subst e
    cases k with
    | true =>
      rw [if_pos rfl] at p1 ⊢
      exact tX_of (st := ⟨st.env, c1⟩) r1 p1
    | false =>
      rw [if_neg (by decide)] at p1 ⊢
      exact tX_of (st := ⟨st.env, c1⟩) r1 p1
/-- x and y, x or y, not x as values -/
def eAnd (fa fb : Ex) : Ex := fun st => (fa st).bind fun x c1 => match truD c1 x with
  | some k => if k then fb ⟨st.env, c1⟩ else .ok x c1
  | none => .no
def eOr (fa fb : Ex) : Ex := fun st => (fa st).bind fun x c1 => match truD c1 x with
  | some k => if k then .ok x c1 else fb ⟨st.env, c1⟩
  | none => .no
def eNot (fa : Ex) : Ex := fun st => (fa st).bind fun x c1 => match truD c1 x with
  | some k => .ok (.bl (!k)) c1
  | none => .no
theorem de_one {op} (h : PE X a (tE G W fa)) : PE X (.BoolOp op [a] pos) (tE G W fa) := pe_one h
theorem de_and (hK : X.K = G.K.K) (ha : PE X a (tE G W fa)) (hb : PE X (.BoolOp .And (b :: rest) pos) (tE G W fb)) : PE X (.BoolOp .And (a :: b :: rest) pos) (tE G W (eAnd fa fb)) :=
  (pe_andT ha hb).impV fun σ H Q ⟨ρ, F, st, r, p⟩ => seqX r p fun ρ1 F1 H1 x c1 v x1 r1 rv1 p1 => by
    obtain ⟨k, t, p2⟩ := truStep (st := ⟨st.env, c1⟩) (kk := fun k => if k then fb ⟨st.env, c1⟩ else .ok x c1) r1 rv1 p1
    rw [hK]
    refine ⟨k, t, ?_⟩
    cases k with
    | true => exact tX_of (st := ⟨st.env, c1⟩) r1 p2
    | false => exact p2.here (st := ⟨st.env, c1⟩) r1 rv1
theorem de_or (hK : X.K = G.K.K) (ha : PE X a (tE G W fa)) (hb : PE X (.BoolOp .Or (b :: rest) pos) (tE G W fb)) : PE X (.BoolOp .Or (a :: b :: rest) pos) (tE G W (eOr fa fb)) :=
  (pe_orT ha hb).impV fun σ H Q ⟨ρ, F, st, r, p⟩ => seqX r p fun ρ1 F1 H1 x c1 v x1 r1 rv1 p1 => by
    obtain ⟨k, t, p2⟩ := truStep (st := ⟨st.env, c1⟩) (kk := fun k => if k then .ok x c1 else fb ⟨st.env, c1⟩) r1 rv1 p1
    rw [hK]
    refine ⟨k, t, ?_⟩
    cases k with
    | true => exact p2.here (st := ⟨st.env, c1⟩) r1 rv1
    | false => exact tX_of (st := ⟨st.env, c1⟩) r1 p2
theorem de_not (hK : X.K = G.K.K) (ha : PE X a (tE G W fa)) : PE X (.UnaryOp .Not a pos) (tE G W (eNot fa)) :=
  (pe_notT ha).impV fun σ H Q ⟨ρ, F, st, r, p⟩ => seqX r p fun ρ1 F1 H1 x c1 v x1 r1 rv1 p1 => by
    obtain ⟨k, t, p2⟩ := truStep (st := ⟨st.env, c1⟩) (kk := fun k => Out.ok (D.bl (!k)) c1) r1 rv1 p1
    rw [hK]
    exact ⟨k, t, p2.here (st := ⟨st.env, c1⟩) r1 (.bl _)⟩
/-! ### an attribute of a frozen object, of an own one -/
def lookD (f : Str) : List Str → List D → Option D
  | k :: ks, d :: ds => if f = k then some d else lookD f ks ds
  | _, _ => none
theorem look_rel {K : Kt} {ρ : List Addr} {F : Hp} {f : Str} : ∀ {ks : List Str} {ds : List D} {vs : List V} {d : D}, RVs K ρ F ds vs → lookD f ks ds = some d → ∃ v, (ks.zip vs).lookup f = some v ∧ RV K ρ F d v
  | [], _, _, _, _, e => by cases e
  | _ :: _, _, _, _, .nil, e => by cases e
  | k :: ks, _, _, _, .cons h r, e => by
    unfold lookD at e
    rw [List.zip_cons_cons, List.lookup_cons]
    by_cases c : f = k
    · rw [if_pos c] at e
      cases e
      rw [show (f == k) = true from beq_iff_eq.mpr c]
      exact ⟨_, rfl, h⟩
    · rw [if_neg c] at e
      rw [show (f == k) = false from beq_eq_false_iff_ne.mpr c]
      exact look_rel r e
/-- the class at c tells nothing of f: it is a field of its instances -/
structure FldOk (K : Kt) (c : Nat) (f : Str) : Prop where
  cl : Cls K.K (K.κ c)
  no : NoAttr K.K (K.κ c) f
def gFldC (cn : Nat) (f : Str) : F1 := fun cs x => match x with
  | .obj C ks ds => if C = cn then (match lookD f ks ds with
    | some d => .ok d cs
    | none => .no) else .no
  | .loc n => (match cs[n]? with
    | some (.ins C ks ds) => if C = cn then (match lookD f ks ds with
      | some d => .ok d cs
      | none => .no) else .no
    | _ => .no)
  | _ => .no
theorem de_fld {cn : Nat} {f : Str} (hK : X.K = G.K.K) (hf : FldOk G.K cn f) (ha : PE X a (tE G W fa)) (hb : attributeBase a f X.env (eval a X.env) = eval a X.env := by rfl) : PE X (.Attribute a f pos) (tE G W (eUn (gFldC cn f) fa)) :=
  (pe_fld ha hb).impV fun σ H Q ⟨ρ, F, st, r, p⟩ => seqX r p fun ρ1 F1 H1 x c1 v x1 r1 rv1 p1 => by
    rw [hK]
    have fin : ∀ {C : Nat} {a2 dx : Addr} {ks : List Str} {ds : List D} {vs : List V}, v = .ref a2 → H1 a2 = some (.ins (G.K.κ C) dx (ks.zip vs)) → RVs G.K ρ1 F1 ds vs → Post RV G W ρ1 F1 st.env σ Q (if C = cn then (match lookD f ks ds with
        | some d => .ok d c1
        | none => .no) else .no) →
        ∃ a C dx fs v_1, v = .ref a ∧ H1 a = some (.ins C dx fs) ∧ Cls G.K.K C ∧ NoAttr G.K.K C f ∧ fs.lookup f = some v_1 ∧ Q v_1 H1 := fun {C a2 dx ks ds vs} e1 e2 rr pp => by
      by_cases c : C = cn
      · subst c
        simp only [if_true] at pp
        cases q : lookD f ks ds with
        | none => simp only [q] at pp; exact pp.elim
        | some d =>
          simp only [q] at pp
          obtain ⟨u, e3, e4⟩ := look_rel rr q
          exact ⟨a2, _, dx, _, u, e1, e2, hf.cl, hf.no, e3, pp.here (st := ⟨st.env, c1⟩) r1 e4⟩
      · simp only [c, if_false] at pp
        exact pp.elim
    cases rv1 with
    | obj h1 h2 h3 => exact fin rfl (r1.fz _ _ h1) h3 p1
    | loc h1 =>
      rename_i n a2
      unfold gFldC at p1
      simp only at p1
      cases q : c1[n]? with
      | none => simp only [q] at p1; exact p1.elim
      | some c0 =>
        cases c0 with
        | ins C ks ds =>
          simp only [q] at p1
          obtain ⟨dx, vs, h2, h3, h4⟩ := r1.cell n _ _ q h1
          exact fin rfl h2 h4 p1
        | lst _ => simp only [q] at p1; exact p1.elim
        | dk _ _ => simp only [q] at p1; exact p1.elim
    | _ => exact p1.elim
end
end VL

namespace VL
open PySem L2
/-! ### statements -/
inductive SOut where
  | nx (st : S) | rt (d : D) (st : S) | bk (st : S) | ct (st : S) | ex (e : Exn) (st : S) | no
def SPost (G : Gx) (W : WX) (ρ : List Addr) (F : Hp) (E : Ends) : SOut → Prop
  | .nx st => ∀ ρ' F' σ' H', Ext ρ F ρ' F' → Rel G ρ' F' st σ' H' → E.nx σ' H'
  | .rt d st => ∀ ρ' F' σ' H' v, Ext ρ F ρ' F' → Rel G ρ' F' st σ' H' → RV G.K ρ' F' d v → E.rt v H'
  | .bk st => ∀ ρ' F' σ' H', Ext ρ F ρ' F' → Rel G ρ' F' st σ' H' → E.bk σ' H'
  | .ct st => ∀ ρ' F' σ' H', Ext ρ F ρ' F' → Rel G ρ' F' st σ' H' → E.ct σ' H'
  | .ex e st => ∀ ρ' F' σ' H' cls dx, Ext ρ F ρ' F' → Rel G ρ' F' st σ' H' → XAt G.K ρ' F' e cls dx → W cls dx σ' H'
  | .no => False
abbrev Sx := S → SOut
def tS (G : Gx) (W : WX) (f : Sx) : TS := fun E σ H => ∃ ρ F st, Rel G ρ F st σ H ∧ SPost G W ρ F E (f st)
section
variable {X : Cx} {G : Gx} {W : WX} {E : Ends} {ρ ρ' : List Addr} {F F' : Hp} {st : S} {σ : St} {H : Hp}
theorem SPost.ext (x : Ext ρ F ρ' F') : ∀ {o : SOut}, SPost G W ρ F E o → SPost G W ρ' F' E o
  | .nx _, h => fun ρ2 F2 s2 H2 y r => h ρ2 F2 s2 H2 (x.trans y) r
  | .rt _ _, h => fun ρ2 F2 s2 H2 v y r q => h ρ2 F2 s2 H2 v (x.trans y) r q
  | .bk _, h => fun ρ2 F2 s2 H2 y r => h ρ2 F2 s2 H2 (x.trans y) r
  | .ct _, h => fun ρ2 F2 s2 H2 y r => h ρ2 F2 s2 H2 (x.trans y) r
  | .ex _ _, h => fun ρ2 F2 s2 H2 c d y r q => h ρ2 F2 s2 H2 c d (x.trans y) r q
  | .no, h => h
def thenS {α : Type} (o : Out α) (env : List (Option D)) (k : α → S → SOut) : SOut := match o with
  | .ok a cs => k a ⟨env, cs⟩
  | .ex e cs => .ex e ⟨env, cs⟩
  | .no => .no
theorem seqS {α β : Type} {R : Kt → List Addr → Hp → α → β → Prop} {f : S → Out α} {k : α → S → SOut} {Q' : β → Hp → Prop} (r : Rel G ρ F st σ H) (p : SPost G W ρ F E (thenS (f st) st.env k))
    (h : ∀ ρ' F' H' a cs v, Ext ρ F ρ' F' → Rel G ρ' F' ⟨st.env, cs⟩ σ H' → R G.K ρ' F' a v → SPost G W ρ' F' E (k a ⟨st.env, cs⟩) → Q' v H') : tX R G W f σ H Q' := by
  refine ⟨ρ, F, st, r, ?_⟩
  cases e : f st with
  | ok a cs =>
    rw [e] at p
    exact fun ρ' F' H' v x r' rv => h ρ' F' H' a cs v x r' rv (SPost.ext x p)
  | ex e' cs =>
    rw [e] at p
    exact fun ρ' F' H' c d x r' q => p ρ' F' σ H' c d x r' q
  | no =>
    rw [e] at p
    exact p
theorem tS_of {f : Sx} (r : Rel G ρ F st σ H) (p : SPost G W ρ F E (f st)) : tS G W f E σ H := ⟨ρ, F, st, r, p⟩
variable {a b c e : Expr} {s : Stmt} {ss : List Stmt} {f g : Sx} {fa fb : Ex} {t : Tx} {pos : Pos}
def sSeq (f g : Sx) : Sx := fun st => match f st with
  | .nx st' => g st'
  | o => o
def sNil : Sx := fun st => .nx st
theorem ds_nil : PSs X [] (tS G W sNil) := pss_nil.impV fun D σ H ⟨ρ, F, st, r, p⟩ => p ρ F σ H Ext.refl r
theorem ds_one (h : PS X s (tS G W f)) : PSs X [s] (tS G W f) := pss_one h
theorem ds_cons (h : PS X s (tS G W f)) (h2 : PSs X ss (tS G W g)) : PSs X (s :: ss) (tS G W (sSeq f g)) := (pss_cons h h2).impV fun D σ H ⟨ρ, F, st, r, p⟩ => by
  refine ⟨ρ, F, st, r, ?_⟩
  unfold sSeq at p
  cases q : f st with
  | nx st' =>
    rw [q] at p
    exact fun ρ' F' σ' H' x r' => tS_of r' (SPost.ext x p)
  | rt d st' => rw [q] at p; exact p
  | bk st' => rw [q] at p; exact p
  | ct st' => rw [q] at p; exact p
  | ex e' st' => rw [q] at p; exact p
  | no => rw [q] at p; exact p
theorem ds_pass : PS X (.Pass pos) (tS G W sNil) := ps_pass.impV fun D σ H ⟨ρ, F, st, r, p⟩ => p ρ F σ H Ext.refl r
def sBrk : Sx := fun st => .bk st
def sCnt : Sx := fun st => .ct st
theorem ds_break : PS X (.Break pos) (tS G W sBrk) := ps_break.impV fun D σ H ⟨ρ, F, st, r, p⟩ => p ρ F σ H Ext.refl r
theorem ds_cont : PS X (.Continue pos) (tS G W sCnt) := ps_continue.impV fun D σ H ⟨ρ, F, st, r, p⟩ => p ρ F σ H Ext.refl r
/-- a way that is never gone -/
def sNever : Sx := fun _ => .no
theorem ds_never : PS X s (tS G W sNever) := ps_never.impV fun D σ H ⟨ρ, F, st, r, p⟩ => p
theorem dss_never : PSs X ss (tS G W sNever) := pss_never.impV fun D σ H ⟨ρ, F, st, r, p⟩ => p
def sExpr (f : Ex) : Sx := fun st => thenS (f st) st.env fun _ st' => .nx st'
theorem ds_expr (h : PE X e (tE G W fa)) (hs : swapsWith e none pos.line X.env = pure false := by rfl) : PS X (.Expr e pos) (tS G W (sExpr fa)) :=
  (ps_expr h hs).impV fun D σ H ⟨ρ, F, st, r, p⟩ => seqS (f := fa) r p fun ρ1 F1 H1 x c1 v x1 r1 rv1 p1 => p1 ρ1 F1 σ H1 Ext.refl r1
def sRet (f : Ex) : Sx := fun st => thenS (f st) st.env fun d st' => .rt d st'
theorem ds_ret (h : PE X e (tE G W fa)) : PS X (.Return (some e) pos) (tS G W (sRet fa)) :=
  (ps_ret h).impV fun D σ H ⟨ρ, F, st, r, p⟩ => seqS (f := fa) r p fun ρ1 F1 H1 x c1 v x1 r1 rv1 p1 => p1 ρ1 F1 σ H1 v Ext.refl r1 rv1
def sRetN : Sx := fun st => .rt .non st
theorem ds_retN : PS X (.Return none pos) (tS G W sRetN) := ps_retN.impV fun D σ H ⟨ρ, F, st, r, p⟩ => p ρ F σ H .non Ext.refl r .non
def sIf (t : Tx) (f g : Sx) : Sx := fun st => thenS (t st) st.env fun k st' => if k then f st' else g st'
theorem ds_if {A B : List Stmt} (hc : PT X c (tTs G W t)) (ha : PSs X A (tS G W f)) (hb : PSs X B (tS G W g)) : PS X (.If c A B pos) (tS G W (sIf t f g)) :=
  (ps_if hc ha hb).impV fun D σ H ⟨ρ, F, st, r, p⟩ => seqS (R := RB) (f := t) r p fun ρ1 F1 H1 k c1 k' x1 r1 e p1 => by
    have e : k = k' := e
    subst e
    cases k with
    | true => exact tS_of r1 p1
    | false => exact tS_of r1 p1
/-! ### targets -/
abbrev Gt := D → S → Option S
abbrev Gts := List D → S → Option S
def gNm (i : Nat) : Gt := fun d st => some ⟨st.env.set i (some d), st.cs⟩
def gsNil : Gts := fun ds st => match ds with
  | [] => some st
  | _ => none
def gsCons (g : Gt) (gs : Gts) : Gts := fun ds st => match ds with
  | d :: r => (g d st).bind (gs r)
  | [] => none
def gTp (n : Nat) (gs : Gts) : Gt := fun d st => match d with
  | .tup ds => if ds.length = n then gs ds st else none
  | _ => none
/-- σ' is σ but at the slots sl -/
def But (sl : List Nat) (σ σ' : St) : Prop := σ'.length = σ.length ∧ ∀ j : Nat, j ∉ sl → σ'[j]? = σ[j]?
theorem But.refl {sl : List Nat} {σ : St} : But sl σ σ := ⟨rfl, fun _ _ => rfl⟩
theorem But.set {i : Nat} {σ : St} {v : Option V} : But [i] σ (σ.set i v) := ⟨List.length_set, fun j hj => List.getElem?_set_ne (fun z => hj (by rw [z]; exact List.mem_singleton.mpr rfl))⟩
theorem But.trans {s1 s2 : List Nat} {σ σ1 σ2 : St} (a : But s1 σ σ1) (b : But s2 σ1 σ2) : But (s1 ++ s2) σ σ2 :=
  ⟨b.1.trans a.1, fun j hj => (b.2 j fun z => hj (List.mem_append_right _ z)).trans (a.2 j fun z => hj (List.mem_append_left _ z))⟩
def tG (G : Gx) (sl : List Nat) (g : Gt) : TG := fun v σ H Q => ∃ ρ F st d st', Rel G ρ F st σ H ∧ RV G.K ρ F d v ∧ g d st = some st' ∧ ∀ σ', Rel G ρ F st' σ' H → But sl σ σ' → Q σ' H
def tGs (G : Gx) (sl : List Nat) (g : Gts) : TGs := fun vs σ H Q => ∃ ρ F st ds st', Rel G ρ F st σ H ∧ RVs G.K ρ F ds vs ∧ g ds st = some st' ∧ ∀ σ', Rel G ρ F st' σ' H → But sl σ σ' → Q σ' H
theorem _root_.L2.PG.impV {X : Cx} {e : Expr} {t t' : TG} (h : PG X e t) (m : ∀ v σ H Q, t' v σ H Q → t v σ H Q) : PG X e t' := ⟨fun pins s σ H v u Q I r hw => h.run pins s σ H v u Q I r (m _ _ _ _ hw)⟩
theorem _root_.L2.PGs.impV {X : Cx} {e : List Expr} {t t' : TGs} (h : PGs X e t) (m : ∀ v σ H Q, t' v σ H Q → t v σ H Q) : PGs X e t' := ⟨fun pins s σ H v u Q I r hw => h.run pins s σ H v u Q I r (m _ _ _ _ hw)⟩
variable {es : List Expr} {i : Nat} {x : Str}
theorem dg_name (hN : X.N.Nodup) (hi : X.N[i]? = some x := by rfl) (hx : Loc X.env.scope x := by first | exact Or.inl rfl | exact Or.inr rfl) (hf : X.fn x = true ∨ X.env.scope.names.lookup x = some .local := by first | exact .inl rfl | exact .inr rfl) : PG X (.Name x pos) (tG G [i] (gNm i)) :=
  (pg_name (i := i) hN hi hx hf).impV fun v σ H Q ⟨ρ, F, st, d, st', r, rv, e, q⟩ => by
    cases e
    exact q _ (r.slot rv) But.set
theorem dgs_nil : PGs X [] (tGs G [] gsNil) := pgs_nil.impV fun v σ H Q ⟨ρ, F, st, ds, st', r, rv, e, q⟩ => by
  cases rv with
  | nil => cases e; exact ⟨rfl, q _ r But.refl⟩
  | cons => cases e
theorem dgs_cons {s1 s2 : List Nat} {g : Gt} {gs : Gts} (h : PG X e (tG G s1 g)) (h2 : PGs X es (tGs G s2 gs)) (hs : (assignEach (e :: es) X.env).map (·.2) = assign e X.env :: (assignEach es X.env).map (·.2) := by rfl) : PGs X (e :: es) (tGs G (s1 ++ s2) (gsCons g gs)) :=
  (pgs_cons h h2 hs).impV fun v σ H Q ⟨ρ, F, st, ds, st', r, rv, e, q⟩ => by
    cases rv with
    | nil => cases e
    | @cons d ds v vs h1 h3 =>
      refine ⟨v, vs, rfl, ?_⟩
      have e : (g d st).bind (gs ds) = some st' := e
      cases q1 : g d st with
      | none => rw [q1] at e; cases e
      | some st1 =>
        rw [q1] at e
        exact ⟨ρ, F, st, d, st1, r, h1, q1, fun σ1 r1 b1 => ⟨ρ, F, st1, ds, st', r1, h3, e, fun σ2 r2 b2 => q σ2 r2 (b1.trans b2)⟩⟩
theorem dg_tup {n k : Nat} {sl : List Nat} {gs : Gts} (hK : X.K = G.K.K) (hc : X.calm = true) (h : PGs X es (tGs G sl gs)) (hn : (assignEach es X.env).length = n := by rfl) (hst : (assignEach es X.env).findIdx? (·.1) = none := by rfl) : PG X (.Tuple es k pos) (tG G sl (gTp n gs)) :=
  (pg_tup hc h hn hst).impV fun v σ H Q ⟨ρ, F, st, d, st', r, rv, e, q⟩ => by
    unfold gTp at e
    cases rv with
    | @tup a vs ds h1 h2 =>
      simp only at e
      by_cases c : ds.length = n
      · rw [if_pos c] at e
        rw [hK]
        exact ⟨a, vs, rfl, sqT_same r.fz h1, by rw [← h2.length]; exact c, ρ, F, st, ds, st', r, h2, e, q⟩
      · rw [if_neg c] at e
        cases e
    | _ => cases e
def asg (g : Gt) (d : D) (st : S) : SOut := match g d st with
  | some st' => .nx st'
  | none => .no
def sAsg (f : Ex) (g : Gt) : Sx := fun st => thenS (f st) st.env (asg g)
theorem asg_of {sl : List Nat} {g : Gt} {d : D} {v : V} (r : Rel G ρ F st σ H) (rv : RV G.K ρ F d v) (p : SPost G W ρ F E (asg g d st)) : tG G sl g v σ H E.nx := by
  unfold asg at p
  cases q : g d st with
  | none => rw [q] at p; exact p.elim
  | some st' =>
    rw [q] at p
    exact ⟨ρ, F, st, d, st', r, rv, q, fun σ' r' _ => p ρ F σ' H Ext.refl r'⟩
theorem ds_set {pos' : Pos} (hN : X.N.Nodup) (h : PE X e (tE G W fa)) (hi : X.N[i]? = some x := by rfl) (hx : Loc X.env.scope x := by first | exact Or.inl rfl | exact Or.inr rfl) (hs : swapsWith e (some (.Name x pos')) pos.line X.env = pure false := by rfl) (hf : X.fn x = true ∨ X.env.scope.names.lookup x = some .local := by first | exact .inl rfl | exact .inr rfl) : PS X (.Assign [.Name x pos'] e pos) (tS G W (sAsg fa (gNm i))) :=
  (ps_set (i := i) hN hi hx h hs hf).impV fun D σ H ⟨ρ, F, st, r, p⟩ => seqS (f := fa) r p fun ρ1 F1 H1 x c1 v x1 r1 rv1 p1 => p1 ρ1 F1 _ H1 Ext.refl (r1.slot rv1)
theorem ds_asg {tg : Expr} {sl : List Nat} {g : Gt} (h : PE X e (tE G W fa)) (hg : PG X tg (tG G sl g)) (hs : swapsWithSole [tg] e pos.line X.env = pure false := by rfl) (hw : swappedStores [tg] e X.env = pure none := by rfl) (h1 : (assignEach [tg] X.env).map (·.2) = [assign tg X.env] := by rfl) : PS X (.Assign [tg] e pos) (tS G W (sAsg fa g)) :=
  (ps_asg h hg hs hw h1).impV fun D σ H ⟨ρ, F, st, r, p⟩ => seqS (f := fa) r p fun ρ1 F1 H1 x c1 v x1 r1 rv1 p1 => asg_of r1 rv1 p1
/-- a, b = x, y -/
def sPar (is : List Nat) (g : Ax) : Sx := fun st => thenS (g st) st.env fun ds st' => match is, ds with
  | [i, j], [d, e] => .nx ⟨(st'.env.set i (some d)).set j (some e), st'.cs⟩
  | [i, j, k], [d, e, f] => .nx ⟨((st'.env.set i (some d)).set j (some e)).set k (some f), st'.cs⟩
  | _, _ => .no
theorem ds_par {j : Nat} {y : Str} {px py pt : Pos} {kt k2 pt2} {ga : Ax} (hc : X.calm = true) (hN : X.N.Nodup) (ha : PA X [a, b] (tAs G W ga)) (hij : i ≠ j) (hi : X.N[i]? = some x := by rfl) (hj : X.N[j]? = some y := by rfl)
    (hx : X.env.scope.names.lookup x = some .local := by rfl) (hy : X.env.scope.names.lookup y = some .local := by rfl)
    (hw : swappedStores [.Tuple [.Name x px, .Name y py] kt pt] (.Tuple [a, b] k2 pt2) X.env = pure (some [x, y]) := by rfl)
    (hs : swapsWithSole [.Tuple [.Name x px, .Name y py] kt pt] (.Tuple [a, b] k2 pt2) pos.line X.env = pure false := by rfl) :
    PS X (.Assign [.Tuple [.Name x px, .Name y py] kt pt] (.Tuple [a, b] k2 pt2) pos) (tS G W (sPar [i, j] ga)) :=
  (ps_par hc hN hi hj hij hx hy ha hw hs).impV fun D σ H ⟨ρ, F, st, r, p⟩ => seqS (R := RVs) (f := ga) r p fun ρ1 F1 H1 ds c1 vs x1 r1 rv1 p1 => by
    cases rv1 with
    | nil => exact p1.elim
    | cons h1 rv1 =>
      cases rv1 with
      | nil => exact p1.elim
      | cons h2 rv1 =>
        cases rv1 with
        | nil => exact ⟨_, _, rfl, p1 ρ1 F1 _ H1 Ext.refl ((r1.slot h1).slot h2)⟩
        | cons h3 rv1 => exact p1.elim
theorem ds_par3 {j l : Nat} {y z : Str} {px py pz pt : Pos} {kt k2 pt2} {ga : Ax} (hc : X.calm = true) (hN : X.N.Nodup) (ha : PA X [a, b, c] (tAs G W ga)) (hij : i ≠ j) (hil : i ≠ l) (hjl : j ≠ l) (hi : X.N[i]? = some x := by rfl) (hj : X.N[j]? = some y := by rfl) (hl : X.N[l]? = some z := by rfl)
    (hx : X.env.scope.names.lookup x = some .local := by rfl) (hy : X.env.scope.names.lookup y = some .local := by rfl) (hz : X.env.scope.names.lookup z = some .local := by rfl)
    (hw : swappedStores [.Tuple [.Name x px, .Name y py, .Name z pz] kt pt] (.Tuple [a, b, c] k2 pt2) X.env = pure (some [x, y, z]) := by rfl)
    (hs : swapsWithSole [.Tuple [.Name x px, .Name y py, .Name z pz] kt pt] (.Tuple [a, b, c] k2 pt2) pos.line X.env = pure false := by rfl) :
    PS X (.Assign [.Tuple [.Name x px, .Name y py, .Name z pz] kt pt] (.Tuple [a, b, c] k2 pt2) pos) (tS G W (sPar [i, j, l] ga)) :=
  (ps_par3 hc hN hi hj hl hij hil hjl hx hy hz ha hw hs).impV fun D σ H ⟨ρ, F, st, r, p⟩ => seqS (R := RVs) (f := ga) r p fun ρ1 F1 H1 ds c1 vs x1 r1 rv1 p1 => by
    cases rv1 with
    | nil => exact p1.elim
    | cons h1 rv1 =>
      cases rv1 with
      | nil => exact p1.elim
      | cons h2 rv1 =>
        cases rv1 with
        | nil => exact p1.elim
        | cons h3 rv1 =>
          cases rv1 with
          | nil => exact ⟨_, _, _, rfl, p1 ρ1 F1 _ H1 Ext.refl (((r1.slot h1).slot h2).slot h3)⟩
          | cons h4 rv1 => exact p1.elim
/-- o[i] = v, o an own list -/
def setIx (o k v : D) (st : S) : SOut := match o, k with
  | .loc n, .int k => match st.cs[n]? with
    | some (.lst ds) => (match ixN ds.length k with
      | some j => .nx ⟨st.env, st.cs.set n (.lst (ds.set j v))⟩
      | none => .no)
    | _ => .no
  | _, _ => .no
theorem setIx_of {o k d : D} {ov kv v : V} (r : Rel G ρ F st σ H) (h1 : RV G.K ρ F o ov) (h2 : RV G.K ρ F k kv) (h3 : RV G.K ρ F d v) (p : SPost G W ρ F E (setIx o k d st)) : rSetL ov kv v H fun H3 => E.nx σ H3 := by
  unfold setIx at p
  cases h1 with
  | @loc n a0 h1 =>
    cases h2 with
    | int k =>
      simp only at p
      cases q : st.cs[n]? with
      | none => simp only [q] at p; exact p.elim
      | some c0 =>
        cases c0 with
        | lst ds =>
          simp only [q] at p
          cases q2 : ixN ds.length k with
          | none => simp only [q2] at p; exact p.elim
          | some j =>
            simp only [q2] at p
            obtain ⟨vs, h4, h5⟩ := r.cell n _ _ q h1
            refine ⟨a0, vs, k, j, rfl, rfl, h4, by rw [← h5.length]; exact q2, ?_⟩
            exact p ρ F σ _ Ext.refl (r.cellSet (c := .lst (ds.set j d)) h1 ⟨_, upd_same, h5.set h3 j⟩)
        | dk _ _ => simp only [q] at p; exact p.elim
        | ins _ _ _ => simp only [q] at p; exact p.elim
    | _ => exact p.elim
  | _ => exact p.elim
def sSetIx (fv fo fi : Ex) : Sx := fun st => thenS (fv st) st.env fun v st1 => thenS (fo st1) st1.env fun o st2 => thenS (fi st2) st2.env fun k st3 => setIx o k v st3
theorem ds_setIx {fv fo fi : Ex} {o k v : Expr} {spos : Pos} (hv : PE X v (tE G W fv)) (ho : PE X o (tE G W fo)) (hi : PE X k (tE G W fi))
    (ha : ∀ u, assign (.Subscript o k spos) X.env u = (do
      let ov ← holding [u] (eval o X.env)
      let iv ← holding [u, ov] (eval k X.env)
      standAt spos
      holding [u, ov, iv] (setItem ov iv u)
      release [u, ov, iv] []) := by intro _; rfl)
    (hs : swapsWithSole [.Subscript o k spos] v pos.line X.env = pure false := by rfl) (hw : swappedStores [.Subscript o k spos] v X.env = pure none := by rfl) (h1 : (assignEach [.Subscript o k spos] X.env).map (·.2) = [assign (.Subscript o k spos) X.env] := by rfl) :
    PS X (.Assign [.Subscript o k spos] v pos) (tS G W (sSetIx fv fo fi)) :=
  (ps_asg hv (pg_sub ho hi set_list ha) hs hw h1).impV fun D σ H ⟨ρ, F, st, r, p⟩ => seqS (f := fv) r p fun ρ1 F1 H1 x c1 v x1 r1 rv1 p1 => seqS (st := ⟨st.env, c1⟩) (f := fo) r1 p1 fun ρ2 F2 H2 o c2 ov x2 r2 rv2 p2 => seqS (st := ⟨st.env, c2⟩) (f := fi) r2 p2 fun ρ3 F3 H3 k c3 kv x3 r3 rv3 p3 => by
    exact setIx_of (st := ⟨st.env, c3⟩) r3 (rv2.ext x3) rv3 ((rv1.ext x2).ext x3) p3
/-- x += e, x -= e of ints -/
def sAug (i : Nat) (g : Int → Int → Int) (f : Ex) : Sx := fun st => match st.env[i]? with
  | some (some (.int k)) => thenS (f st) st.env fun d st' => match d with
    | .int j => .nx ⟨st'.env.set i (some (.int (g k j))), st'.cs⟩
    | _ => .no
  | _ => .no
theorem ds_aug {op : Operator} {g : Int → Int → Int} {pos' : Pos} (hN : X.N.Nodup) (h : PE X e (tE G W fa)) (ho : PIp X op (ipI g)) (hi : X.N[i]? = some x := by rfl) (hx : Loc X.env.scope x := by first | exact Or.inl rfl | exact Or.inr rfl) (hf : X.fn x = true ∨ X.env.scope.names.lookup x = some .local := by first | exact .inl rfl | exact .inr rfl) :
    PS X (.AugAssign (.Name x pos') op e pos) (tS G W (sAug i g fa)) :=
  (ps_aug (i := i) hN hi hx h ho hf).impV fun D σ H ⟨ρ, F, st, r, p⟩ => by
    unfold sAug at p
    split at p
    · rename_i k q
      obtain ⟨v, e1, e2⟩ := r.env i _ q
      cases e2
      refine ⟨_, e1, seqS (f := fa) r p fun ρ1 F1 H1 d c1 w x1 r1 rv1 p1 => ?_⟩
      cases rv1 with
      | int j => exact ⟨_, _, rfl, rfl, p1 ρ1 F1 _ H1 Ext.refl (r1.slot (.int _))⟩
      | _ => exact p1.elim
    · exact p.elim
end
end VL

namespace VL
open PySem L2
/-! ### what is walked -/
/-- J gives ds, one after the other, as long as keep holds of the cells -/
def Wk (G : Gx) (ρ0 : List Addr) (F0 : Hp) (J : It) (ds : List D) (keep : List Cell → Bool) : Prop :=
  ∀ (ρ : List Addr) (F : Hp) (st : S) (σ : St) (H : Hp) (i : Nat), Ext ρ0 F0 ρ F → Rel G ρ F st σ H → keep st.cs = true →
    (∀ d, ds[i]? = some d → J.go i H ∧ ∀ x H', J.yld i H x H' → ∃ ρ' F', Ext ρ F ρ' F' ∧ ρ' = ρ ∧ (∀ b o, H b = some o → H' b = some o) ∧ Rel G ρ' F' st σ H' ∧ RV G.K ρ' F' d x) ∧ (i = ds.length → J.stop i H)
abbrev Walk := List D × (List Cell → Bool)
abbrev Ix := S → Out Walk
def tI (G : Gx) (W : WX) (src : Ix) : TI := fun σ H R => ∃ ρ F st, Rel G ρ F st σ H ∧ (match src st with
  | .ok w cs => ∀ ρ' F' H' J, Ext ρ F ρ' F' → Rel G ρ' F' ⟨st.env, cs⟩ σ H' → Wk G ρ' F' J w.1 w.2 → R J H'
  | .ex e cs => ∀ ρ' F' H' cls dx, Ext ρ F ρ' F' → Rel G ρ' F' ⟨st.env, cs⟩ σ H' → XAt G.K ρ' F' e cls dx → W cls dx σ H'
  | .no => False)
def keepAll : List Cell → Bool := fun _ => true
/-- the cell n holds ds -/
def keepAt (cs0 : List Cell) : D → List Cell → Bool
  | .loc n => fun cs => match cs0[n]?, cs[n]? with
    | some (.lst _), some (.lst _) => true
    | _, _ => false
  | _ => fun _ => true
section
variable {X : Cx} {G : Gx} {W : WX} {ρ : List Addr} {F : Hp} {st : S} {σ : St} {H : Hp} {tg e : Expr} {es : List Expr} {fa : Ex} {pos : Pos}
theorem _root_.L2.PI.impV {X : Cx} {tg e : Expr} {t t' : TI} (h : PI X tg e t) (m : ∀ σ H R, t' σ H R → t σ H R) : PI X tg e t' := ⟨fun pins s σ H R I hw => h.run pins s σ H R I (m _ _ _ hw)⟩
/-- lists' items are locked by a test of the cell: it holds these very items -/
def iLst (f : Ex) : Ix := fun st => (f st).bind fun x c1 => match x with
  | .tup ds => .ok (ds, keepAll) c1
  | .lst ds => .ok (ds, keepAll) c1
  | .frl ds => .ok (ds, keepAll) c1
  | _ => .no
theorem tI_of {α β : Type} {R : Kt → List Addr → Hp → α → β → Prop} {f : S → Out α} {k : α → List Cell → Out Walk} {Q : It → Hp → Prop} {Q' : β → Hp → Prop} (r : Rel G ρ F st σ H)
    (p : match (f st).bind k with
      | .ok w cs => ∀ ρ' F' H' J, Ext ρ F ρ' F' → Rel G ρ' F' ⟨st.env, cs⟩ σ H' → Wk G ρ' F' J w.1 w.2 → Q J H'
      | .ex e cs => ∀ ρ' F' H' cls dx, Ext ρ F ρ' F' → Rel G ρ' F' ⟨st.env, cs⟩ σ H' → XAt G.K ρ' F' e cls dx → W cls dx σ H'
      | .no => False)
    (h : ∀ ρ' F' H' a cs v, Ext ρ F ρ' F' → Rel G ρ' F' ⟨st.env, cs⟩ σ H' → R G.K ρ' F' a v → (∀ w, k a cs = .ok w cs → ∀ J, Wk G ρ' F' J w.1 w.2 → Q J H') → (k a cs ≠ .no) → Q' v H') (hk : ∀ a cs, (∃ w, k a cs = .ok w cs) ∨ k a cs = .no) : tX R G W f σ H Q' := by
  refine ⟨ρ, F, st, r, ?_⟩
  cases e : f st with
  | ok a cs =>
    rw [e] at p
    have p : match k a cs with
      | .ok w cs => ∀ ρ' F' H' J, Ext ρ F ρ' F' → Rel G ρ' F' ⟨st.env, cs⟩ σ H' → Wk G ρ' F' J w.1 w.2 → Q J H'
      | .ex e cs => ∀ ρ' F' H' cls dx, Ext ρ F ρ' F' → Rel G ρ' F' ⟨st.env, cs⟩ σ H' → XAt G.K ρ' F' e cls dx → W cls dx σ H'
      | .no => False := p
    rcases hk a cs with ⟨w, hw⟩ | hw
    · rw [hw] at p
      refine fun ρ' F' H' v x r' rv => h ρ' F' H' a cs v x r' rv (fun w' hw' J wk => ?_) (fun z => by rw [hw] at z; cases z)
      rw [hw] at hw'
      cases hw'
      exact p ρ' F' H' J x r' wk
    · rw [hw] at p
      exact p.elim
  | ex e' cs => rw [e] at p; exact p
  | no => rw [e] at p; exact p
theorem wk_list {a : Addr} {ds : List D} {vs : List V} (hs : SqL G.K.K F a vs) (rv : RVs G.K ρ F ds vs) : Wk G ρ F (Itl G.K.K a) ds keepAll := fun ρ1 F1 st1 σ1 H1 i x r _ => by
  have hs1 : SqL G.K.K H1 a vs := r.fz.seq (x.fz.seq hs)
  refine ⟨fun d e => ?_, fun e => ⟨vs, hs1, ?_⟩⟩
  · obtain ⟨v, e1, e2⟩ := (rv.ext x).get e
    exact ⟨⟨vs, v, hs1, e1⟩, fun y H' ⟨e3, e4⟩ => by
      subst e3
      have := e4 vs hs1
      rw [e1] at this
      cases this
      exact ⟨ρ1, F1, Ext.refl, rfl, fun _ _ h => h, r, e2⟩⟩
  · rw [← rv.length, e]
    exact Nat.le_refl _
theorem wk_tup {a : Addr} {ds : List D} {vs : List V} (hs : SqT G.K.K F a vs) (rv : RVs G.K ρ F ds vs) : Wk G ρ F (Itt G.K.K a) ds keepAll := fun ρ1 F1 st1 σ1 H1 i x r _ => by
  have hs1 : SqT G.K.K H1 a vs := sqT_same r.fz (sqT_same x.fz hs)
  refine ⟨fun d e => ?_, fun e => ⟨vs, hs1, ?_⟩⟩
  · obtain ⟨v, e1, e2⟩ := (rv.ext x).get e
    exact ⟨⟨vs, v, hs1, e1⟩, fun y H' ⟨e3, e4⟩ => by
      subst e3
      have := e4 vs hs1
      rw [e1] at this
      cases this
      exact ⟨ρ1, F1, Ext.refl, rfl, fun _ _ h => h, r, e2⟩⟩
  · rw [← rv.length, e]
    exact Nat.le_refl _
/-- for over a frozen list -/
def iL (f : Ex) : Ix := fun st => (f st).bind fun x c1 => match x with
  | .lst ds => .ok (ds, keepAll) c1
  | .frl ds => .ok (ds, keepAll) c1
  | _ => .no
theorem di_list (hK : X.K = G.K.K) (h : PE X e (tE G W fa)) : PI X tg e (tI G W (iL fa)) := (pi_list h).impV fun σ H R ⟨ρ, F, st, r, p⟩ => by
  refine tI_of (R := RV) r p (fun ρ1 F1 H1 x c1 v x1 r1 rv1 q hn => ?_) (fun x c1 => ?_)
  · rw [hK]
    cases rv1 with
    | lst h1 h2 => exact ⟨_, rfl, ⟨_, SqL.of (r1.fz _ _ h1)⟩, q _ rfl _ (wk_list (SqL.of h1) h2)⟩
    | frl h1 h2 => exact ⟨_, rfl, ⟨_, r1.fz.seq h1⟩, q _ rfl _ (wk_list h1 h2)⟩
    | _ => exact absurd rfl hn
  · cases x <;> first | exact .inl ⟨_, rfl⟩ | exact .inr rfl
/-- for over a tuple -/
def iT (f : Ex) : Ix := fun st => (f st).bind fun x c1 => match x with
  | .tup ds => .ok (ds, keepAll) c1
  | _ => .no
theorem di_tup (hK : X.K = G.K.K) (h : PE X e (tE G W fa)) : PI X tg e (tI G W (iT fa)) := (pi_tup h).impV fun σ H R ⟨ρ, F, st, r, p⟩ => by
  refine tI_of (R := RV) r p (fun ρ1 F1 H1 x c1 v x1 r1 rv1 q hn => ?_) (fun x c1 => ?_)
  · rw [hK]
    cases rv1 with
    | tup h1 h2 => exact ⟨_, rfl, ⟨_, sqT_same r1.fz h1⟩, q _ rfl _ (wk_tup h1 h2)⟩
    | _ => exact absurd rfl hn
  · cases x <;> first | exact .inl ⟨_, rfl⟩ | exact .inr rfl
/-- range(n), range(a, b) -/
def rangeD (lo : Int) (n : Nat) : List D := (List.range n).map fun i => .int (lo + (i : Nat))
theorem wk_range {lo : Int} {n : Nat} : Wk G ρ F (Itr lo n) (rangeD lo n) keepAll := fun ρ1 F1 st1 σ1 H1 i x r _ => by
  refine ⟨fun d e => ?_, fun e => ?_⟩
  · unfold rangeD at e
    rw [List.getElem?_map] at e
    by_cases c : i < n
    · rw [List.getElem?_range c] at e
      cases e
      refine ⟨c, fun y H' ⟨e3, e4⟩ => ?_⟩
      subst e3 e4
      exact ⟨ρ1, F1, Ext.refl, rfl, fun _ _ h => h, r, .int _⟩
    · rw [List.getElem?_eq_none_iff.mpr (by rw [List.length_range]; omega)] at e
      cases e
  · unfold rangeD at e
    rw [List.length_map, List.length_range] at e
    show n ≤ i
    omega
def iR1 (g : Ax) : Ix := fun st => (g st).bind fun xs c1 => match xs with
  | [.int j] => if decide (-(2 ^ 62) ≤ j) && decide (j < 2 ^ 62) then .ok (rangeD 0 j.toNat, keepAll) c1 else .no
  | _ => .no
theorem di_range1 {a : Expr} {g : Ax} {p pos : Pos} (hg : Gl X "range") (hm : X.mg "range" = none) (ha : PA X [a] (tAs G W g)) (hs : starEach [a] X.env = [(false, eval a X.env)] := by rfl) : PI X tg (.Call (.Name "range" p) [a] [] pos) (tI G W (iR1 g)) :=
  (pi_range1 hg hm ha hs).impV fun σ H R ⟨ρ, F, st, r, p⟩ => by
    refine tI_of (R := RVs) r p (fun ρ1 F1 H1 xs c1 v x1 r1 rv1 q hn => ?_) (fun xs c1 => ?_)
    · split at hn
      · rename_i j
        by_cases c : (decide (-(2 ^ 62) ≤ j) && decide (j < 2 ^ 62)) = true
        · have q := q (rangeD 0 j.toNat, keepAll) (by simp only [c, if_true]) _ wk_range
          simp only [Bool.and_eq_true, decide_eq_true_eq] at c
          cases rv1 with
          | cons h1 h2 =>
            cases h1
            cases h2
            exact ⟨j, rfl, c.1, c.2, q⟩
        · simp only [c, if_false] at hn
          exact absurd rfl hn
      · exact absurd rfl hn
    · split
      · split
        · exact .inl ⟨_, rfl⟩
        · exact .inr rfl
      · exact .inr rfl
def iR2 (g : Ax) : Ix := fun st => (g st).bind fun xs c1 => match xs with
  | [.int i, .int j] => if decide (-(2 ^ 62) ≤ i) && decide (i < 2 ^ 62) && decide (-(2 ^ 62) ≤ j) && decide (j < 2 ^ 62) then .ok (rangeD i (j - i).toNat, keepAll) c1 else .no
  | _ => .no
theorem di_range2 {a b : Expr} {g : Ax} {p pos : Pos} (hg : Gl X "range") (hm : X.mg "range" = none) (ha : PA X [a, b] (tAs G W g)) (hs : starEach [a, b] X.env = [(false, eval a X.env), (false, eval b X.env)] := by rfl) (hs2 : starEach [b] X.env = [(false, eval b X.env)] := by rfl) : PI X tg (.Call (.Name "range" p) [a, b] [] pos) (tI G W (iR2 g)) :=
  (pi_range2 hg hm ha hs hs2).impV fun σ H R ⟨ρ, F, st, r, p⟩ => by
    refine tI_of (R := RVs) r p (fun ρ1 F1 H1 xs c1 v x1 r1 rv1 q hn => ?_) (fun xs c1 => ?_)
    · split at hn
      · rename_i i j
        by_cases c : (decide (-(2 ^ 62) ≤ i) && decide (i < 2 ^ 62) && decide (-(2 ^ 62) ≤ j) && decide (j < 2 ^ 62)) = true
        · have q := q (rangeD i (j - i).toNat, keepAll) (by simp only [c, if_true]) _ wk_range
          simp only [Bool.and_eq_true, decide_eq_true_eq] at c
          cases rv1 with
          | cons h1 h2 =>
            cases h1
            cases h2 with
            | cons h1 h2 =>
              cases h1
              cases h2
              exact ⟨i, j, rfl, ⟨c.1.1.1, c.1.1.2, c.1.2, c.2⟩, q⟩
        · simp only [c, if_false] at hn
          exact absurd rfl hn
      · exact absurd rfl hn
    · split
      · split
        · exact .inl ⟨_, rfl⟩
        · exact .inr rfl
      · exact .inr rfl
/-- a text sign by sign -/
def iS (f : Ex) : Ix := fun st => (f st).bind fun x c1 => match x with
  | .str z => .ok (z.cps.toList.map fun c => .str ⟨#[c]⟩, keepAll) c1
  | _ => .no
theorem di_str (h : PE X e (tE G W fa)) : PI X tg e (tI G W (iS fa)) := (pi_str h).impV fun σ H R ⟨ρ, F, st, r, p⟩ => by
  refine tI_of (R := RV) r p (fun ρ1 F1 H1 x c1 v x1 r1 rv1 q hn => ?_) (fun x c1 => ?_)
  · cases rv1 with
    | str z =>
      refine ⟨_, rfl, q _ rfl _ fun ρ2 F2 st2 σ2 H2 i x r _ => ⟨fun d e => ?_, fun e => ?_⟩⟩
      · rw [List.getElem?_map] at e
        cases q : z.cps.toList[i]? with
        | none => rw [q] at e; cases e
        | some c =>
          rw [q] at e
          cases e
          have q' : z.cps[i]? = some c := by rw [← Array.getElem?_toList]; exact q
          refine ⟨(Array.getElem?_eq_some_iff.mp q').1, fun y H' ⟨e3, c', e4, e5⟩ => ?_⟩
          rw [q'] at e4
          cases e4
          subst e3 e5
          exact ⟨ρ2, F2, Ext.refl, rfl, fun _ _ h => h, r, .str _⟩
      · rw [List.length_map, Array.length_toList] at e
        show z.cps.size ≤ i
        omega
    | _ => exact absurd rfl hn
  · cases x <;> first | exact .inl ⟨_, rfl⟩ | exact .inr rfl
/-- enumerate of a frozen list -/
def enumD (ds : List D) : List D := ds.mapIdx fun i d => .tup [.int (i : Nat), d]
theorem wk_enum {a : Addr} {ds : List D} {vs : List V} (hs : SqL G.K.K F a vs) (rv : RVs G.K ρ F ds vs) : Wk G ρ F (Ite G.K.K a) (enumD ds) keepAll := fun ρ1 F1 st1 σ1 H1 i x r _ => by
  have hs1 : SqL G.K.K H1 a vs := r.fz.seq (x.fz.seq hs)
  refine ⟨fun d e => ?_, fun e => ⟨vs, hs1, ?_⟩⟩
  · unfold enumD at e
    rw [List.getElem?_mapIdx] at e
    cases q : ds[i]? with
    | none => rw [q] at e; cases e
    | some d0 =>
      rw [q] at e
      cases e
      obtain ⟨v, e1, e2⟩ := (rv.ext x).get q
      refine ⟨⟨vs, v, hs1, e1⟩, fun y H' ⟨T, u, e3, e4, e5, e6⟩ => ?_⟩
      have := e6 vs hs1
      rw [e1] at this
      cases this
      subst e3 e5
      obtain ⟨x2, r2⟩ := r.fresh (o := .tup [.int (i : Nat), v]) e4
      exact ⟨ρ1, _, x2, rfl, same_upd' e4, r2, .tup (SqT.of upd_same) (.cons (.int _) (.cons (e2.ext x2) .nil))⟩
  · unfold enumD at e
    rw [List.length_mapIdx] at e
    rw [← rv.length]
    omega
def iEn (g : Ax) : Ix := fun st => (g st).bind fun xs c1 => match xs with
  | [.lst ds] => .ok (enumD ds, keepAll) c1
  | [.frl ds] => .ok (enumD ds, keepAll) c1
  | _ => .no
theorem di_enum {g : Ax} {p pos tpos : Pos} {elts : List Expr} {kk : Nat} (hK : X.K = G.K.K) (hg : Gl X "enumerate") (hm : X.mg "enumerate" = none) (ha : PA X [e] (tAs G W g)) (hs : starEach [e] X.env = [(false, eval e X.env)] := by rfl) :
    PI X (.Tuple elts kk tpos) (.Call (.Name "enumerate" p) [e] [] pos) (tI G W (iEn g)) :=
  (pi_enum hg hm ha hs).impV fun σ H R ⟨ρ, F, st, r, p⟩ => by
    refine tI_of (R := RVs) r p (fun ρ1 F1 H1 xs c1 v x1 r1 rv1 q hn => ?_) (fun xs c1 => ?_)
    · rw [hK]
      split at hn
      · cases rv1 with
        | cons h1 h2 =>
          cases h2
          cases h1 with
          | lst h1 h2 => exact ⟨_, _, rfl, SqL.of (r1.fz _ _ h1), q _ rfl _ (wk_enum (SqL.of h1) h2)⟩
      · cases rv1 with
        | cons h1 h2 =>
          cases h2
          cases h1 with
          | frl h1 h2 => exact ⟨_, _, rfl, r1.fz.seq h1, q _ rfl _ (wk_enum h1 h2)⟩
      · exact absurd rfl hn
    · split <;> first | exact .inl ⟨_, rfl⟩ | exact .inr rfl

/-! ### for -/
def forL (g : Gt) (body : Sx) (keep : List Cell → Bool) : List D → S → SOut
  | [], st => if keep st.cs then .nx st else .no
  | d :: ds, st => if keep st.cs then (match g d st with
    | some st1 => (match body st1 with
      | .nx st2 => forL g body keep ds st2
      | .ct st2 => forL g body keep ds st2
      | .bk st2 => .nx st2
      | o => o)
    | none => .no) else .no
def sFor (src : Ix) (g : Gt) (body : Sx) : Sx := fun st => thenS (src st) st.env fun w st' => forL g body w.2 w.1 st'
theorem ds_for {body : List Stmt} {src : Ix} {sl : List Nat} {g : Gt} {f : Sx} (hp : PassesOwn (model X.prog X.w) X.A X.env X.xe) (hc : X.calm = true) (hi : PI X tg e (tI G W src)) (hg : PG X tg (tG G sl g)) (hb : PSs X body (tS G W f)) (hs : ∀ x, foldedSetIterable e X.env x = pure x := by intro _; rfl) :
    PS X (.For tg e body [] pos) (tS G W (sFor src g f)) := (ps_for hp hc hi hg hb hs).impV fun D σ H ⟨ρ, F, st, r, p⟩ => by
  refine ⟨ρ, F, st, r, ?_⟩
  unfold sFor at p
  cases q : src st with
  | no => rw [q] at p; exact p
  | ex e' cs =>
    rw [q] at p
    exact fun ρ' F' H' c d x r' xa => p ρ' F' σ H' c d x r' xa
  | ok w cs =>
    rw [q] at p
    obtain ⟨ds, keep⟩ := w
    intro ρ' F' H' J x r' wk
    refine ⟨fun i m σ1 H1 => ∃ ρ1 F1 st1, Ext ρ' F' ρ1 F1 ∧ Rel G ρ1 F1 st1 σ1 H1 ∧ i + m = ds.length ∧ SPost G W ρ1 F1 D (forL g f keep (ds.drop i) st1), ⟨ds.length, ρ', F', _, Ext.refl, r', Nat.zero_add _, SPost.ext x p⟩, ?_⟩
    rintro i m σ1 H1 ⟨ρ1, F1, st1, x1, r1, em, p1⟩
    cases hd : ds.drop i with
    | nil =>
      rw [hd] at p1
      unfold forL at p1
      have hi : i = ds.length := by
        have := List.drop_eq_nil_iff.mp hd
        omega
      by_cases hk : keep st1.cs = true
      · rw [if_pos hk] at p1
        exact .inl ⟨(wk ρ1 F1 st1 σ1 H1 i x1 r1 hk).2 hi, p1 ρ1 F1 σ1 H1 Ext.refl r1⟩
      · rw [if_neg hk] at p1
        exact p1.elim
    | cons d rest =>
      rw [hd] at p1
      unfold forL at p1
      have hi : ds[i]? = some d := by
        have := List.getElem?_drop (xs := ds) (i := i) (j := 0)
        rw [hd, Nat.add_zero] at this
        exact this.symm
      have hr : ds.drop (i + 1) = rest := by
        rw [← List.drop_drop, hd]; rfl
      by_cases hk : keep st1.cs = true
      · rw [if_pos hk] at p1
        obtain ⟨go, yl⟩ := (wk ρ1 F1 st1 σ1 H1 i x1 r1 hk).1 d hi
        refine .inr ⟨go, fun σ2 H2 => ∃ ρ2 F2 st2, Ext ρ' F' ρ2 F2 ∧ Rel G ρ2 F2 st2 σ2 H2 ∧ SPost G W ρ2 F2 D (forL g f keep rest st2), fun σ2 H2 ⟨ρ2, F2, st2, x2, r2, p2⟩ => ⟨m - 1, ?_, ρ2, F2, st2, x2, r2, ?_, by rw [hr]; exact p2⟩, fun y H2 hy => ?_⟩
        · have := (List.getElem?_eq_some_iff.mp hi).1
          omega
        · have := (List.getElem?_eq_some_iff.mp hi).1
          omega
        · obtain ⟨ρ3, F3, x3, _, _, r3, rv3⟩ := yl y H2 hy
          have p3 := SPost.ext x3 p1
          cases q3 : g d st1 with
          | none => simp only [q3] at p3; exact p3.elim
          | some st3 =>
            simp only [q3] at p3
            refine ⟨ρ3, F3, st1, d, st3, r3, rv3, q3, fun σ4 r4 _ => ⟨ρ3, F3, st3, r4, ?_⟩⟩
            cases q4 : f st3 with
            | nx st4 =>
              simp only [q4] at p3
              exact fun ρ5 F5 σ5 H5 x5 r5 => ⟨ρ5, F5, st4, (x1.trans x3).trans x5, r5, SPost.ext x5 p3⟩
            | ct st4 =>
              simp only [q4] at p3
              exact fun ρ5 F5 σ5 H5 x5 r5 => ⟨ρ5, F5, st4, (x1.trans x3).trans x5, r5, SPost.ext x5 p3⟩
            | bk st4 =>
              simp only [q4] at p3
              exact p3
            | rt d4 st4 => simp only [q4] at p3; exact p3
            | ex e4 st4 => simp only [q4] at p3; exact p3
            | no => simp only [q4] at p3; exact p3
      · rw [if_neg hk] at p1
        exact p1.elim

/-! ### while -/
def whL (t : Tx) (body : Sx) : Nat → S → SOut
  | 0, _ => .no
  | n + 1, st => thenS (t st) st.env fun k st1 => if k then (match body st1 with
    | .nx st2 => whL t body n st2
    | .ct st2 => whL t body n st2
    | .bk st2 => .nx st2
    | o => o) else .nx st1
def sWhile (fuel : S → Nat) (t : Tx) (body : Sx) : Sx := fun st => whL t body (fuel st) st
theorem ds_while {c : Expr} {body : List Stmt} {fuel : S → Nat} {t : Tx} {f : Sx} (hp : PassesOwn (model X.prog X.w) X.A X.env X.xe) (hc : PT X c (tTs G W t)) (hb : PSs X body (tS G W f)) : PS X (.While c body [] pos) (tS G W (sWhile fuel t f)) :=
  (ps_while hp hc hb).impV fun D σ H ⟨ρ, F, st, r, p⟩ => by
    refine ⟨fun m σ1 H1 => ∃ ρ1 F1 st1, Rel G ρ1 F1 st1 σ1 H1 ∧ SPost G W ρ1 F1 D (whL t f m st1), ⟨fuel st, ρ, F, st, r, p⟩, ?_⟩
    rintro m σ1 H1 ⟨ρ1, F1, st1, r1, p1⟩
    cases m with
    | zero => exact p1.elim
    | succ n =>
      unfold whL at p1
      refine seqS (R := RB) (f := t) r1 p1 fun ρ2 F2 H2 k c2 k' x2 r2 e p2 => ?_
      have e : k = k' := e
      subst e
      cases k with
      | false => exact p2 ρ2 F2 σ1 H2 Ext.refl r2
      | true =>
        rw [if_pos rfl]
        rw [if_pos rfl] at p2
        refine ⟨fun σ3 H3 => ∃ ρ3 F3 st3, Rel G ρ3 F3 st3 σ3 H3 ∧ SPost G W ρ3 F3 D (whL t f n st3), fun σ3 H3 h3 => ⟨n, Nat.lt_succ_self n, h3⟩, ρ2, F2, _, r2, ?_⟩
        cases q4 : f ⟨st1.env, c2⟩ with
        | nx st4 =>
          simp only [q4] at p2
          exact fun ρ5 F5 σ5 H5 x5 r5 => ⟨ρ5, F5, st4, r5, SPost.ext x5 p2⟩
        | ct st4 =>
          simp only [q4] at p2
          exact fun ρ5 F5 σ5 H5 x5 r5 => ⟨ρ5, F5, st4, r5, SPost.ext x5 p2⟩
        | bk st4 => simp only [q4] at p2; exact p2
        | rt d4 st4 => simp only [q4] at p2; exact p2
        | ex e4 st4 => simp only [q4] at p2; exact p2
        | no => simp only [q4] at p2; exact p2
end
end VL

namespace VL
open PySem L2
/-- nothing is raised -/
abbrev W0 : WX := fun _ _ _ _ => False
def wipeD (env : List (Option D)) : List Nat → List (Option D)
  | [] => env
  | v :: vs => (wipeD env vs).set v none
theorem wipeD_length (env : List (Option D)) : ∀ vs : List Nat, (wipeD env vs).length = env.length
  | [] => rfl
  | v :: vs => by unfold wipeD; rw [List.length_set, wipeD_length env vs]
theorem wipeD_some {env : List (Option D)} {i : Nat} {x : D} : ∀ {vs : List Nat}, (wipeD env vs)[i]? = some (some x) → env[i]? = some (some x) ∧ i ∉ vs
  | [], h => ⟨h, by simp⟩
  | v :: vs, h => by
    unfold wipeD at h
    by_cases hi : v = i
    · subst hi
      by_cases hv : v < (wipeD env vs).length
      · rw [List.getElem?_set_self hv] at h; cases h
      · rw [List.getElem?_eq_none (by simpa using hv)] at h; cases h
    · rw [List.getElem?_set_ne hi] at h
      obtain ⟨h1, h2⟩ := wipeD_some h
      exact ⟨h1, by simp only [List.mem_cons, not_or]; exact ⟨fun e => hi e.symm, h2⟩⟩
theorem wipe_get {σ : St} {j : Nat} : ∀ {vs : List Nat}, (wipe σ vs)[j]? = if j ∈ vs then (if j < σ.length then some none else none) else σ[j]?
  | [] => by simp [wipe]
  | v :: vs => by
    unfold wipe
    by_cases hj : v = j
    · subst hj
      rw [if_pos List.mem_cons_self]
      by_cases hv : v < σ.length
      · rw [if_pos hv, List.getElem?_set_self (by rw [wipe_length]; exact hv)]
      · rw [if_neg hv, List.getElem?_eq_none (by rw [List.length_set, wipe_length]; omega)]
    · rw [List.getElem?_set_ne hj, wipe_get (vs := vs)]
      by_cases h : j ∈ vs
      · rw [if_pos h, if_pos (List.mem_cons_of_mem _ h)]
      · rw [if_neg h, if_neg (fun z => (List.mem_cons.mp z).elim (fun e => hj e.symm) h)]
theorem wipe_but {vs sl : List Nat} {σ σ' : St} (h : But sl (wipe σ vs) σ') (hs : ∀ i ∈ sl, i ∈ vs) : wipe σ' vs = wipe σ vs := by
  have hl : σ'.length = σ.length := by rw [h.1, wipe_length]
  refine List.ext_getElem? fun j => ?_
  rw [wipe_get, wipe_get]
  by_cases hj : j ∈ vs
  · rw [if_pos hj, if_pos hj, hl]
  · rw [if_neg hj, if_neg hj, h.2 j (fun z => hj (hs j z)), wipe_get, if_neg hj]
section
variable {X : Cx} {G : Gx} {ρ ρ' : List Addr} {F F' : Hp} {st : S} {σ σ' : St} {H H' : Hp}
theorem Rel.wiped (r : Rel G ρ F st σ H) (vs : List Nat) : Rel G ρ F ⟨wipeD st.env vs, st.cs⟩ (wipe σ vs) H :=
  ⟨by show (wipeD st.env vs).length = _; rw [wipeD_length, wipe_length, r.len], fun i d e => by
    obtain ⟨h1, h2⟩ := wipeD_some e
    obtain ⟨v, e1, e2⟩ := r.env i d h1
    exact ⟨v, by rw [wipe_get, if_neg h2]; exact e1, e2⟩, r.cl, r.cell, r.nd, r.fz, r.sep, r.fr, r.own, r.new, r.old, r.a0⟩
/-- back to elder slots -/
theorem Rel.back {env env' : List (Option D)} {cs cs' : List Cell} (r : Rel G ρ F ⟨env, cs⟩ σ H) (x : Ext ρ F ρ' F') (r' : Rel G ρ' F' ⟨env', cs'⟩ σ' H') : Rel G ρ' F' ⟨env, cs'⟩ σ H' :=
  ⟨r.len, fun i d e => let ⟨v, e1, e2⟩ := r.env i d e; ⟨v, e1, e2.ext x⟩, r'.cl, r'.cell, r'.nd, r'.fz, r'.sep, r'.fr, r'.own, r'.new, r'.old, r'.a0⟩
end
/-! ### the own cells that a value names lie below n -/
mutual
def below (n : Nat) : D → Bool
  | .non => true
  | .bl _ => true
  | .int _ => true
  | .str _ => true
  | .tup ds => belows n ds
  | .lst ds => belows n ds
  | .frl ds => belows n ds
  | .obj _ _ ds => belows n ds
  | .loc m => decide (m < n)
def belows (n : Nat) : List D → Bool
  | [] => true
  | d :: r => below n d && belows n r
end
def belowC (n : Nat) : Cell → Bool
  | .lst ds => belows n ds
  | .dk _ ds => belows n ds
  | .ins _ _ ds => belows n ds
mutual
theorem RV.cut {K : Kt} {ρ : List Addr} {F F' : Hp} {n : Nat} (s : Same F F') : ∀ {d : D} {v : V}, RV K ρ F d v → below n d = true → RV K (ρ.take n) F' d v
  | _, _, .non, _ => .non
  | _, _, .bl b, _ => .bl b
  | _, _, .int i, _ => .int i
  | _, _, .str x, _ => .str x
  | _, _, .tup h r, e => .tup (sqT_same s h) (RVs.cut s r (by simpa [below] using e))
  | _, _, .lst h r, e => .lst (s _ _ h) (RVs.cut s r (by simpa [below] using e))
  | _, _, .frl h r, e => .frl (s.seq h) (RVs.cut s r (by simpa [below] using e))
  | _, _, .obj h l r, e => .obj (s _ _ h) l (RVs.cut s r (by simpa [below] using e))
  | _, _, .loc h, e => .loc (by
    simp only [below, decide_eq_true_eq] at e
    rw [List.getElem?_take_of_lt e]
    exact h)
theorem RVs.cut {K : Kt} {ρ : List Addr} {F F' : Hp} {n : Nat} (s : Same F F') : ∀ {ds : List D} {vs : List V}, RVs K ρ F ds vs → belows n ds = true → RVs K (ρ.take n) F' ds vs
  | _, _, .nil, _ => .nil
  | _, _, .cons h r, e => by
    simp only [belows, Bool.and_eq_true] at e
    exact .cons (RV.cut s h e.1) (RVs.cut s r e.2)
end
theorem CellAt.cut {K : Kt} {ρ : List Addr} {F F' H : Hp} {a : Addr} {n : Nat} (s : Same F F') : ∀ {c : Cell}, CellAt K ρ F H a c → belowC n c = true → CellAt K (ρ.take n) F' H a c
  | .lst _, ⟨_, h, r⟩, e => ⟨_, h, r.cut s e⟩
  | .dk _ _, ⟨_, h, l, r⟩, e => ⟨_, h, l, r.cut s e⟩
  | .ins _ _ _, ⟨_, _, h, l, r⟩, e => ⟨_, _, h, l, r.cut s e⟩
/-- the last own cell, a list, becomes a frozen one: its place leaves the cells -/
theorem Rel.freeze {G : Gx} {ρ0 ρ : List Addr} {F0 F : Hp} {env0 env : List (Option D)} {cs0 cs : List Cell} {ds : List D} {σ0 σ : St} {H0 H : Hp} {a : Addr} {n : Nat} (r0 : Rel G ρ0 F0 ⟨env0, cs0⟩ σ0 H0) (hn : n = cs0.length) (x : Ext ρ0 F0 ρ F)
    (r : Rel G ρ F ⟨env, cs ++ [.lst ds]⟩ σ H) (hl : cs.length = n) (ha : ρ[n]? = some a) (b1 : belows n ds = true) (b2 : cs.all (belowC n) = true) :
    ∃ F', Ext ρ0 F0 ρ0 F' ∧ Rel G ρ0 F' ⟨env0, cs⟩ σ0 H ∧ RV G.K ρ0 F' (.lst ds) (.ref a) := by
  have hρ : ρ.take n = ρ0 := by
    obtain ⟨t, rfl⟩ := x.pre
    rw [hn, ← show ρ0.length = cs0.length from r0.cl, List.take_left]
  obtain ⟨vs, h1, h2⟩ := r.cell n (.lst ds) a (by
    show (cs ++ [Cell.lst ds])[n]? = _
    rw [List.getElem?_append_right (by omega), hl, Nat.sub_self]; rfl) ha
  have hm : a ∈ ρ := List.mem_of_getElem? ha
  have hFa : F a = none := r.sep a hm
  have s1 : Same F (upd F a (.lst vs)) := same_upd' hFa
  have hlen : ρ.length = n + 1 := by rw [show ρ.length = (cs ++ [Cell.lst ds]).length from r.cl, List.length_append, hl]; rfl
  have hna : a ∉ ρ0 := fun z => by
    rw [← hρ] at z
    obtain ⟨i, hi, e⟩ := List.getElem_of_mem z
    rw [List.length_take] at hi
    have hin : i < n := by omega
    rw [List.getElem_take] at e
    obtain ⟨h3, h3'⟩ := List.getElem?_eq_some_iff.mp ha
    have := (List.getElem_inj r.nd).mp (e.trans h3'.symm)
    omega
  have hA : a ∉ G.A0 := fun z => hna (r0.a0.subset z)
  have hH0 : G.H0 a = none := (r.own a hm).resolve_left hA
  refine ⟨upd F a (.lst vs), ⟨List.prefix_refl _, x.fz.trans s1⟩, ⟨r0.len, fun i d e => ?_, ?_, fun i c b e1 e2 => ?_, r0.nd, fun b o e => ?_, fun b hb => ?_, r.fr, fun b hb => r.own b (x.pre.subset hb), fun b o e => ?_, r.old.trans s1, r0.a0⟩, ?_⟩
  · obtain ⟨v, e1, e2⟩ := r0.env i d e
    exact ⟨v, e1, e2.ext ⟨List.prefix_refl _, x.fz.trans s1⟩⟩
  · show ρ0.length = cs.length
    rw [hl, hn]; exact r0.cl
  · have e1 : cs[i]? = some c := e1
    have hi : i < cs.length := (List.getElem?_eq_some_iff.mp e1).1
    have e3 : ρ[i]? = some b := x.at e2
    have := r.cell i c b (by show (cs ++ [Cell.lst ds])[i]? = _; rw [List.getElem?_append_left hi]; exact e1) e3
    have q := this.cut (n := n) s1 (List.all_eq_true.mp b2 c (List.mem_of_getElem? e1))
    rw [hρ] at q
    exact q
  · by_cases hb : b = a
    · subst hb
      rw [upd_same] at e
      cases e
      exact h1
    · rw [upd_ne hb] at e
      exact r.fz b o e
  · rw [upd_ne (show b ≠ a from fun z => hna (by rw [← z]; exact hb))]
    exact r.sep b (x.pre.subset hb)
  · by_cases hb : b = a
    · subst hb
      exact .inr hH0
    · rw [upd_ne hb] at e
      exact r.new b o e
  · have q := h2.cut (n := n) s1 b1
    rw [hρ] at q
    exact .lst upd_same q
/-! ### comprehensions -/
/-- the list is made in the cell n -/
def lcL (g : Gt) (t : Tx) (f : Ex) (keep : List Cell → Bool) (env : List (Option D)) (n : Nat) : List D → List Cell → Option (List Cell)
  | [], cs => if keep cs then some cs else none
  | d :: ds, cs => if keep cs then (match g d ⟨env, cs⟩ with
    | some st1 => (match t st1 with
      | .ok true c2 => (match f ⟨st1.env, c2⟩ with
        | .ok y c3 => (match c3[n]? with
          | some (.lst acc) => if acc.length < 16777216 then lcL g t f keep env n ds (c3.set n (.lst (acc ++ [y]))) else none
          | _ => none)
        | _ => none)
      | .ok false c2 => lcL g t f keep env n ds c2
      | _ => none)
    | none => none) else none
/-- split off the last cell -/
def lastCell (cs : List Cell) : Option (List Cell × List D) := match cs.reverse with
  | .lst ds :: r => some (r.reverse, ds)
  | _ => none
theorem lastCell_eq {cs c1 : List Cell} {ds : List D} (h : lastCell cs = some (c1, ds)) : cs = c1 ++ [.lst ds] := by
  unfold lastCell at h
  split at h
  · rename_i es r e
    cases h
    rw [← List.reverse_reverse cs, e, List.reverse_cons]
  · cases h
/-- a comprehension's list, frozen -/
def eLc (src : Ix) (g : Gt) (t : Tx) (f : Ex) (vs : List Nat) : Ex := fun st => (src st).bind fun w c1 => match lcL g t f w.2 (wipeD st.env vs) c1.length w.1 (c1 ++ [.lst []]) with
  | some c2 => (match lastCell c2 with
    | some (c3, ds) => if c3.length = c1.length ∧ belows c1.length ds = true ∧ c3.all (belowC c1.length) = true then .ok (.lst ds) c3 else .no
    | none => .no)
  | none => .no
/-- a comprehension's list, an own cell -/
def eLcLoc (src : Ix) (g : Gt) (t : Tx) (f : Ex) (vs : List Nat) : Ex := fun st => (src st).bind fun w c1 => match lcL g t f w.2 (wipeD st.env vs) c1.length w.1 (c1 ++ [.lst []]) with
  | some c2 => .ok (.loc c1.length) c2
  | none => .no
section
variable {X : Cx} {G : Gx} {W : WX} {tg iter elt : Expr} {ifs : List Expr}
theorem lc_of {src : Ix} {sl vs : List Nat} {g : Gt} {t : Tx} {f : Ex} (hsl : ∀ i ∈ sl, i ∈ vs) {k : S → Walk → List Cell → List Cell → Out D} {σ : St} {H : Hp} {Q : VK} {ρ : List Addr} {F : Hp} {st : S} (r : Rel G ρ F st σ H)
    (p : Post RV G W ρ F st.env σ Q ((src st).bind fun w c1 => match lcL g t f w.2 (wipeD st.env vs) c1.length w.1 (c1 ++ [.lst []]) with
      | some c2 => k st w c1 c2
      | none => .no))
    (fin : ∀ (w : Walk) (c1 c2 : List Cell) (ρ1 : List Addr) (F1 H1 : Hp) (ρ2 : List Addr) (F2 H2 : Hp) (a : Addr), Ext ρ F ρ1 F1 → Rel G ρ1 F1 ⟨st.env, c1⟩ σ H1 → Ext (ρ1 ++ [a]) F1 ρ2 F2 → Rel G ρ2 F2 ⟨st.env, c2⟩ σ H2 → ρ1.length = c1.length → Post RV G W ρ F st.env σ Q (k st w c1 c2) → Q (.ref a) H2) :
    tLc (tI G W src) (tG G sl g) (tTs G W0 t) (tE G W0 f) vs σ H Q := by
  refine ⟨ρ, F, st, r, ?_⟩
  cases q : src st with
  | no => rw [q] at p; exact p
  | ex e' cs =>
    rw [q] at p
    exact fun ρ' F' H' c d x r' xa => p ρ' F' H' c d x r' xa
  | ok w c1 =>
    rw [q] at p
    have p : Post RV G W ρ F st.env σ Q (match lcL g t f w.2 (wipeD st.env vs) c1.length w.1 (c1 ++ [.lst []]) with
      | some c2 => k st w c1 c2
      | none => .no) := p
    cases q2 : lcL g t f w.2 (wipeD st.env vs) c1.length w.1 (c1 ++ [.lst []]) with
    | none => rw [q2] at p; exact p.elim
    | some c2 =>
    rw [q2] at p
    obtain ⟨ds, keep⟩ := w
    have q2 : lcL g t f keep (wipeD st.env vs) c1.length ds (c1 ++ [.lst []]) = some c2 := q2
    intro ρ1 F1 H1 J x1 r1 wk D hD
    have hl1 : ρ1.length = c1.length := r1.cl
    have y0 : Ext ρ1 F1 (ρ1 ++ [D]) F1 := ⟨List.prefix_append _ _, Same.refl _⟩
    obtain ⟨_, r2⟩ := r1.cellNew (p := D) (o := .lst []) (c := .lst []) hD ⟨[], upd_same, .nil⟩
    refine ⟨fun i m H2 => ∃ ρ2 F2 cs, Ext (ρ1 ++ [D]) F1 ρ2 F2 ∧ Rel G ρ2 F2 ⟨st.env, cs⟩ σ H2 ∧ i + m = ds.length ∧ lcL g t f keep (wipeD st.env vs) c1.length (ds.drop i) cs = some c2, ⟨ds.length, ρ1 ++ [D], F1, _, Ext.refl, r2, Nat.zero_add _, q2⟩, ?_⟩
    rintro i m H2 ⟨ρ2, F2, cs, x2, r2, em, e2⟩
    cases hd : ds.drop i with
    | nil =>
      rw [hd] at e2
      unfold lcL at e2
      have hi : i = ds.length := by
        have := List.drop_eq_nil_iff.mp hd
        omega
      by_cases hk : keep cs = true
      · rw [if_pos hk] at e2
        cases e2
        exact .inl ⟨(wk ρ2 F2 _ σ H2 i (y0.trans x2) r2 hk).2 hi, fin _ _ _ _ _ _ _ _ _ _ x1 r1 x2 r2 hl1 p⟩
      · rw [if_neg hk] at e2
        cases e2
    | cons d rest =>
      rw [hd] at e2
      unfold lcL at e2
      have hi : ds[i]? = some d := by
        have := List.getElem?_drop (xs := ds) (i := i) (j := 0)
        rw [hd, Nat.add_zero] at this
        exact this.symm
      have hr : ds.drop (i + 1) = rest := by
        rw [← List.drop_drop, hd]; rfl
      by_cases hk : keep cs = true
      · rw [if_pos hk] at e2
        obtain ⟨go, yl⟩ := (wk ρ2 F2 _ σ H2 i (y0.trans x2) r2 hk).1 d hi
        refine .inr ⟨go, fun H3 => ∃ ρ3 F3 cs3, Ext (ρ1 ++ [D]) F1 ρ3 F3 ∧ Rel G ρ3 F3 ⟨st.env, cs3⟩ σ H3 ∧ lcL g t f keep (wipeD st.env vs) c1.length rest cs3 = some c2, fun H3 ⟨ρ3, F3, cs3, x3, r3, e3⟩ => ⟨m - 1, ?_, ρ3, F3, cs3, x3, r3, ?_, by rw [hr]; exact e3⟩, fun y H3 hy => ?_⟩
        · have := (List.getElem?_eq_some_iff.mp hi).1
          omega
        · have := (List.getElem?_eq_some_iff.mp hi).1
          omega
        · obtain ⟨ρ3, F3, x3, _, _, r3, rv3⟩ := yl y H3 hy
          have x23 := x2.trans x3
          cases q3 : g d ⟨wipeD st.env vs, cs⟩ with
          | none => simp only [q3] at e2; cases e2
          | some st1 =>
            simp only [q3] at e2
            refine ⟨ρ3, F3, _, d, st1, r3.wiped vs, rv3, q3, fun σ4 r4 b4 => ⟨wipe_but b4 hsl, ρ3, F3, st1, r4, ?_⟩⟩
            cases q4 : t st1 with
            | no => simp only [q4] at e2; cases e2
            | ex _ _ => simp only [q4] at e2; cases e2
            | ok b c4 =>
              intro ρ5 F5 H5 b' x5 r5 eb
              have eb : b = b' := eb
              subst eb
              cases b with
              | false =>
                simp only [q4] at e2
                exact ⟨ρ5, F5, c4, x23.trans x5, r3.back x5 r5, e2⟩
              | true =>
                simp only [q4] at e2
                rw [if_pos rfl]
                refine ⟨ρ5, F5, _, r5, ?_⟩
                cases q6 : f ⟨st1.env, c4⟩ with
                | no => simp only [q6] at e2; cases e2
                | ex _ _ => simp only [q6] at e2; cases e2
                | ok z c6 =>
                  simp only [q6] at e2
                  intro ρ7 F7 H7 v x7 r7 rv7
                  cases q7 : c6[c1.length]? with
                  | none => simp only [q7] at e2; cases e2
                  | some c0 =>
                    cases c0 with
                    | dk _ _ => simp only [q7] at e2; cases e2
                    | ins _ _ _ => simp only [q7] at e2; cases e2
                    | lst acc =>
                      simp only [q7] at e2
                      by_cases hz : acc.length < 16777216
                      · rw [if_pos hz] at e2
                        have x27 := (x23.trans x5).trans x7
                        have hat : ρ7[c1.length]? = some D := x27.at (by
                          rw [← hl1, List.getElem?_append_right (Nat.le_refl _), Nat.sub_self]; rfl)
                        obtain ⟨ws, h8, h9⟩ := r7.cell _ _ _ q7 hat
                        refine ⟨ws, h8, by rw [← h9.length, sizeLine_eq]; exact hz, ρ7, F7, _, x27, ?_, e2⟩
                        have r8 := r3.back (x5.trans x7) r7
                        exact r8.cellSet (c := .lst (acc ++ [z])) hat ⟨_, upd_same, h9.append (RVs.one rv7)⟩
                      · rw [if_neg hz] at e2
                        cases e2
      · rw [if_neg hk] at e2
        cases e2
variable {scope : Scope} {own : List (Str × Nat)} {pos : Pos} {src : Ix} {sl : List Nat} {g : Gt} {t : Tx} {f : Ex}
theorem eLc_of (hsl : ∀ i ∈ sl, i ∈ own.map (·.2)) : ∀ σ H Q, tE G W (eLc src g t f (own.map (·.2))) σ H Q → tLc (tI G W src) (tG G sl g) (tTs G W0 t) (tE G W0 f) (own.map (·.2)) σ H Q := fun σ H Q ⟨ρ, F, st, r, p⟩ =>
  lc_of hsl (k := fun _ _ c1 c2 => match lastCell c2 with
    | some (c3, ds) => if c3.length = c1.length ∧ belows c1.length ds = true ∧ c3.all (belowC c1.length) = true then .ok (.lst ds) c3 else .no
    | none => .no) r p fun w c1 c2 ρ1 F1 H1 ρ2 F2 H2 a x1 r1 x2 r2 hl p2 => by
    cases q : lastCell c2 with
    | none => simp only [q] at p2; exact p2.elim
    | some z =>
      obtain ⟨c3, ds⟩ := z
      simp only [q] at p2
      have e := lastCell_eq q
      subst e
      by_cases c : c3.length = c1.length ∧ belows c1.length ds = true ∧ c3.all (belowC c1.length) = true
      · rw [if_pos c] at p2
        have y0 : Ext ρ1 F1 (ρ1 ++ [a]) F1 := ⟨List.prefix_append _ _, Same.refl _⟩
        obtain ⟨F', x3, r3, rv3⟩ := Rel.freeze (a := a) r1 rfl (y0.trans x2) r2 c.1 (x2.at (by rw [← hl, List.getElem?_append_right (Nat.le_refl _), Nat.sub_self]; rfl)) c.2.1 c.2.2
        exact p2 ρ1 F' H2 _ (x1.trans x3) r3 rv3
      · rw [if_neg c] at p2
        exact p2.elim
theorem eLcLoc_of (hsl : ∀ i ∈ sl, i ∈ own.map (·.2)) : ∀ σ H Q, tE G W (eLcLoc src g t f (own.map (·.2))) σ H Q → tLc (tI G W src) (tG G sl g) (tTs G W0 t) (tE G W0 f) (own.map (·.2)) σ H Q := fun σ H Q ⟨ρ, F, st, r, p⟩ =>
  lc_of hsl (k := fun _ _ c1 c2 => .ok (.loc c1.length) c2) r p fun w c1 c2 ρ1 F1 H1 ρ2 F2 H2 a x1 r1 x2 r2 hl p2 => by
    have y0 : Ext ρ1 F1 (ρ1 ++ [a]) F1 := ⟨List.prefix_append _ _, Same.refl _⟩
    exact p2 ρ2 F2 H2 _ (x1.trans (y0.trans x2)) r2 (.loc (x2.at (by rw [← hl, List.getElem?_append_right (Nat.le_refl _), Nat.sub_self]; rfl)))
theorem de_lc (hc : X.calm = true) (hN : X.N.Nodup) (hi : PI X tg iter (tI G W src)) (ok : BlkOk X.N X.env.scope scope own) (hsl : ∀ i ∈ sl, i ∈ own.map (·.2))
    (hg : ∀ (s : Shared) (H : Hp) (C : Addr) (cl : List (Str × Addr)) (fp : List Addr), PG (X.blk s H scope (compEnvC scope cl C X.env) fp) tg (tG G sl g)) (ht : ∀ (s : Shared) (H : Hp) (C : Addr) (cl : List (Str × Addr)) (fp : List Addr), PTs (X.blk s H scope (compEnvC scope cl C X.env) fp) ifs (tTs G W0 t))
    (he : ∀ (s : Shared) (H : Hp) (C : Addr) (cl : List (Str × Addr)) (fp : List Addr), PE (X.blk s H scope (compEnvC scope cl C X.env) fp) elt (tE G W0 f)) (hs : ∀ x, foldedSetIterable iter X.env x = pure x := by intro _; rfl) :
    PE X (.ListComp elt [⟨tg, iter, ifs, 0⟩] scope pos) (tE G W (eLc src g t f (own.map (·.2)))) := (pe_lc hc hN hi ok hg ht he hs).impV (eLc_of hsl)
theorem de_lcLoc (hc : X.calm = true) (hN : X.N.Nodup) (hi : PI X tg iter (tI G W src)) (ok : BlkOk X.N X.env.scope scope own) (hsl : ∀ i ∈ sl, i ∈ own.map (·.2))
    (hg : ∀ (s : Shared) (H : Hp) (C : Addr) (cl : List (Str × Addr)) (fp : List Addr), PG (X.blk s H scope (compEnvC scope cl C X.env) fp) tg (tG G sl g)) (ht : ∀ (s : Shared) (H : Hp) (C : Addr) (cl : List (Str × Addr)) (fp : List Addr), PTs (X.blk s H scope (compEnvC scope cl C X.env) fp) ifs (tTs G W0 t))
    (he : ∀ (s : Shared) (H : Hp) (C : Addr) (cl : List (Str × Addr)) (fp : List Addr), PE (X.blk s H scope (compEnvC scope cl C X.env) fp) elt (tE G W0 f)) (hs : ∀ x, foldedSetIterable iter X.env x = pure x := by intro _; rfl) :
    PE X (.ListComp elt [⟨tg, iter, ifs, 0⟩] scope pos) (tE G W (eLcLoc src g t f (own.map (·.2)))) := (pe_lc hc hN hi ok hg ht he hs).impV (eLcLoc_of hsl)
def tTrue : Tx := fun st => .ok true st.cs
theorem dts_nil : PTs X [] (tTs G W tTrue) := ⟨fun pins s σ H Q I ⟨ρ, F, st, r, p⟩ => pts_nil.run pins s σ H Q I (p.here r rfl)⟩
theorem dts_one {c : Expr} (h : PT X c (tTs G W t)) : PTs X [c] (tTs G W t) := pts_one h
end
end VL

namespace VL
open PySem L2
/-! ### a def's promise by a plain function -/
abbrev Fn := List D → List Cell → Out D
/-- the entry's facts: what is handed in and the cells that may be changed -/
def OPost (G : Gx) (Q : VK) (E : XK) : Out D → Prop
  | .ok d cs => ∀ ρ F H v, Ext G.A0 G.F0 ρ F → Rel G ρ F ⟨[], cs⟩ [] H → RV G.K ρ F d v → Q v H
  | .ex e cs => ∀ ρ F H cls dx, Ext G.A0 G.F0 ρ F → Rel G ρ F ⟨[], cs⟩ [] H → XAt G.K ρ F e cls dx → E cls dx H
  | .no => False
def spF (K : Kt) (n : Nat) (fn : Fn) : Sp := fun vs H Q E => ∃ (ρ0 : List Addr) (F0 : Hp) (ds : List D) (cs : List Cell), Rel ⟨K, H, F0, ρ0⟩ ρ0 F0 ⟨[], cs⟩ [] H ∧ RVs K ρ0 F0 ds vs ∧ ds.length = n ∧ OPost ⟨K, H, F0, ρ0⟩ Q E (fn ds cs)
theorem spF_len {K : Kt} {n : Nat} {fn : Fn} {vs : List V} {H : Hp} {Q : VK} {E : XK} (h : spF K n fn vs H Q E) : vs.length = n := by
  obtain ⟨ρ0, F0, ds, cs, _, r, e, _⟩ := h
  rw [← r.length, e]
def startD (n : Nat) (ds : List D) : List (Option D) := ds.map some ++ List.replicate (n - ds.length) none
/-- a body as a function; its own cells stay -/
def runF (n : Nat) (body : Sx) : Fn := fun ds cs => match body ⟨startD n ds, cs⟩ with
  | .rt d st => .ok d st.cs
  | .nx st => .ok .non st.cs
  | .ex e st => .ex e st.cs
  | _ => .no
theorem start_rel {G : Gx} {ρ : List Addr} {F H : Hp} {cs : List Cell} {ds : List D} {vs : List V} {N : List Str} (r : Rel G ρ F ⟨[], cs⟩ [] H) (rv : RVs G.K ρ F ds vs) : Rel G ρ F ⟨startD N.length ds, cs⟩ (start N vs) H := by
  refine ⟨?_, fun i d e => ?_, r.cl, r.cell, r.nd, r.fz, r.sep, r.fr, r.own, r.new, r.old, r.a0⟩
  · show (startD N.length ds).length = _
    unfold startD L2.start
    rw [List.length_append, List.length_append, List.length_map, List.length_map, List.length_replicate, List.length_replicate, rv.length]
  · have e : (startD N.length ds)[i]? = some (some d) := e
    unfold startD at e
    unfold L2.start
    by_cases hi : i < ds.length
    · rw [List.getElem?_append_left (by rw [List.length_map]; exact hi), List.getElem?_map] at e
      cases q : ds[i]? with
      | none => rw [q] at e; cases e
      | some d' =>
        rw [q] at e
        cases e
        obtain ⟨v, e1, e2⟩ := rv.get q
        refine ⟨v, ?_, e2⟩
        rw [List.getElem?_append_left (by rw [List.length_map, ← rv.length]; exact hi), List.getElem?_map, e1]
        rfl
    · rw [List.getElem?_append_right (by rw [List.length_map]; omega), List.getElem?_replicate] at e
      split at e <;> cases e
theorem Rel.noenv {G : Gx} {ρ : List Addr} {F H : Hp} {st : S} {σ : St} (r : Rel G ρ F st σ H) : Rel G ρ F ⟨[], st.cs⟩ [] H :=
  ⟨rfl, fun i d e => by simp at e, r.cl, r.cell, r.nd, r.fz, r.sep, r.fr, r.own, r.new, r.old, r.a0⟩
section
variable {P : Program} {w : World} {K : Kt} {mg : Str → Option Value} {base : Heap}
theorem body_of {N : List Str} {body : Sx} {vs : List V} {H : Hp} {Q : VK} {E : XK} {ps : Nat} (h : spF K ps (runF N.length body) vs H Q E) :
    ∃ G : Gx, G.K = K ∧ tS G (fun cls d _ H' => E cls d H') body { nx := fun _ H' => Q .non H', rt := Q } (start N vs) H := by
  obtain ⟨ρ0, F0, ds, cs, r, rv, _, p⟩ := h
  refine ⟨⟨K, H, F0, ρ0⟩, rfl, ρ0, F0, _, start_rel r rv, ?_⟩
  unfold runF at p
  cases q : body ⟨startD N.length ds, cs⟩ with
  | nx st => rw [q] at p; exact fun ρ F σ H x r' => p ρ F H .non x r'.noenv .non
  | rt d st => rw [q] at p; exact fun ρ F σ H v x r' rv' => p ρ F H v x r'.noenv rv'
  | ex e st => rw [q] at p; exact fun ρ F σ H c d x r' xa => p ρ F H c d x r'.noenv xa
  | bk st => rw [q] at p; exact p.elim
  | ct st => rw [q] at p; exact p.elim
  | no => rw [q] at p; exact p.elim
/-- THE RULE: a def by its body's plain function -/
theorem okV {x qual : Str} {st : Stmt} {f : Addr} {fd : FuncData} {N ps : List Str} {k : Nat} {body : Sx} (F : Fun K.K x qual st f fd) (S : FnScope N ps (defScope st))
    (hbody : ∀ (G : Gx), G.K = K → ∀ (cdv : Value) (A : Around) (outer : List Env) (s : Shared) (H : Hp) (E : XK), Room k (A.deeper (PyProof.Rows.envOfC qual (defScope st) s.heap.objs.size f cdv)) →
      PSs (cxOf (L2.CX P w) P w K.K mg base N qual (defScope st) f cdv A outer s H E) (defBody st) (tS G (fun cls d _ H' => E cls d H') body)) :
    FnOk P w K.K mg base (L2.CX P w) (k + 1) f fd ps (spF K ps.length (runF N.length body)) := by
  refine F.okX S (fun vs H Q E h => spF_len h) (fun cdv A outer s H vs Q E hr h => ?_)
  obtain ⟨G, e, t⟩ := body_of h
  exact ⟨_, hbody G e cdv A outer s H E hr, t⟩
end
/-! ### a call: all cells are handed on -/
section
variable {X : Cx} {G : Gx} {W : WX} {ρ : List Addr} {F : Hp} {st : S} {σ : St} {H : Hp} {e : Expr} {es : List Expr} {g : Ax} {pos : Pos}
/-- what a call leaves, seen from the caller -/
theorem Rel.after {ρ' : List Addr} {F' H' : Hp} {cs' : List Cell} (r : Rel G ρ F st σ H) (x : Ext ρ F ρ' F') (r' : Rel ⟨G.K, H, F, ρ⟩ ρ' F' ⟨[], cs'⟩ [] H') : Rel G ρ' F' ⟨st.env, cs'⟩ σ H' := by
  have old : ∀ a, a ∈ ρ → a ∈ G.A0 ∨ G.H0 a = none := r.own
  refine ⟨r.len, fun i d e => ?_, r'.cl, r'.cell, r'.nd, r'.fz, r'.sep, fun a o e1 e2 => ?_, fun a ha => ?_, fun a o e1 => ?_, r.old.trans x.fz, r.a0.trans x.pre⟩
  · obtain ⟨v, e1, e2⟩ := r.env i d e
    exact ⟨v, e1, e2.ext x⟩
  · refine r'.fr a o (r.fr a o e1 e2) fun z => ?_
    rcases old a z with q | q
    · exact e2 q
    · rw [q] at e1; cases e1
  · rcases r'.own a ha with q | q
    · exact old a q
    · exact .inr (r.free0 q)
  · rcases r'.new a o e1 with q | q
    · exact r.new a o q
    · exact .inr (r.free0 q)
theorem Rel.entry (r : Rel G ρ F st σ H) : Rel ⟨G.K, H, F, ρ⟩ ρ F ⟨[], st.cs⟩ [] H :=
  ⟨rfl, fun i d e => by simp at e, r.cl, r.cell, r.nd, r.fz, r.sep, fun _ _ h _ => h, fun _ h => .inl h, fun _ _ h => .inl h, Same.refl _, List.prefix_refl _⟩
def eCallAll (fn : Fn) (g : Ax) : Ex := fun st => (g st).bind fun ds c1 => fn ds c1
theorem callAll_of {fn : Fn} {ds : List D} {vs : List V} {Q : VK} {n : Nat} (r : Rel G ρ F st σ H) (rv : RVs G.K ρ F ds vs) (hn : ds.length = n) (p : Post RV G W ρ F st.env σ Q (fn ds st.cs)) : spF G.K n fn vs H Q (WE W σ) := by
  refine ⟨ρ, F, ds, st.cs, r.entry, rv, hn, ?_⟩
  cases q : fn ds st.cs with
  | ok d cs' => rw [q] at p; exact fun ρ' F' H' v x r' rv' => p ρ' F' H' v x (r.after x r') rv'
  | ex e cs' => rw [q] at p; exact fun ρ' F' H' c d x r' xa => p ρ' F' H' c d x (r.after x r') xa
  | no => rw [q] at p; exact p
/-! ### a call: the first n cells are handed on -/
/-- the cells from n on are lent as frozen lists -/
def lendD (n : Nat) (cs : List Cell) : D → D
  | .loc m => if m < n then .loc m else (match cs[m]? with
    | some (.lst ds) => .lst ds
    | _ => .loc m)
  | d => d
mutual
def noLst : D → Bool
  | .non => true
  | .bl _ => true
  | .int _ => true
  | .str _ => true
  | .tup ds => noLsts ds
  | .lst _ => false
  | .frl _ => false
  | .obj _ _ ds => noLsts ds
  | .loc _ => true
def noLsts : List D → Bool
  | [] => true
  | d :: r => noLst d && noLsts r
end
def noLstC : Cell → Bool
  | .lst ds => noLsts ds
  | .dk _ ds => noLsts ds
  | .ins _ _ ds => noLsts ds
/-- a call that is handed the first n cells -/
def callV (n : Nat) (fn : Fn) (ds : List D) (cs : List Cell) : Out D :=
  if n ≤ cs.length ∧ belows n (ds.map (lendD n cs)) = true ∧ (cs.take n).all (belowC n) = true then
    match fn (ds.map (lendD n cs)) (cs.take n) with
    | .ok d cs' => if cs'.length = n ∧ (belows n ds = true ∨ (noLst d = true ∧ cs'.all noLstC = true)) then .ok d (cs' ++ cs.drop n) else .no
    | .ex e cs' => if cs'.length = n ∧ (belows n ds = true ∨ (noLsts e.ds = true ∧ cs'.all noLstC = true)) then .ex e (cs' ++ cs.drop n) else .no
    | .no => .no
  else .no
/-- the heap that is lent: the lists among the cells from n on are frozen -/
def lentF (ρ : List Addr) (n : Nat) (F H : Hp) : Hp := fun a => if a ∈ ρ.drop n then (match H a with
  | some (.lst vs) => some (.lst vs)
  | _ => none) else F a
/-- .. and taken back -/
def backF (ρ : List Addr) (n : Nat) (F' : Hp) : Hp := fun a => if a ∈ ρ.drop n then none else F' a

section
variable {n : Nat} {F' H' : Hp}
theorem drop_mem {a : Addr} (h : a ∈ ρ.drop n) : a ∈ ρ := List.mem_of_mem_drop h
theorem Rel.sameLent (r : Rel G ρ F st σ H) : Same F (lentF ρ n F H) := fun a o e => by
  unfold lentF
  by_cases h : a ∈ ρ.drop n
  · rw [r.sep a (drop_mem h)] at e; cases e
  · rw [if_neg h]; exact e
theorem lent_same (r : Rel G ρ F st σ H) : Same (lentF ρ n F H) H := fun a o e => by
  unfold lentF at e
  by_cases h : a ∈ ρ.drop n
  · rw [if_pos h] at e
    cases q : H a with
    | none => rw [q] at e; cases e
    | some u =>
      rw [q] at e
      cases u <;> first | cases e <;> rfl | cases e
  · rw [if_neg h] at e
    exact r.fz a o e
theorem take_drop_ne {a : Addr} (nd : ρ.Nodup) (h1 : a ∈ ρ.take n) (h2 : a ∈ ρ.drop n) : False := by
  have := List.take_append_drop n ρ
  rw [← this] at nd
  exact (List.nodup_append.mp nd).2.2 a h1 a h2 rfl
/-- the entry of such a call -/
theorem Rel.entryN (r : Rel G ρ F st σ H) (hn : n ≤ st.cs.length) (hb : (st.cs.take n).all (belowC n) = true) : Rel ⟨G.K, H, lentF ρ n F H, ρ.take n⟩ (ρ.take n) (lentF ρ n F H) ⟨[], st.cs.take n⟩ [] H := by
  refine ⟨rfl, fun i d e => by simp at e, ?_, fun i c a e1 e2 => ?_, r.nd.sublist (List.take_sublist _ _), lent_same r, fun a ha => ?_, fun _ _ h _ => h, fun _ h => .inl h, fun _ _ h => .inl h, Same.refl _, List.prefix_refl _⟩
  · show (ρ.take n).length = (st.cs.take n).length
    rw [List.length_take, List.length_take, r.cl]
  · have e1 : (st.cs.take n)[i]? = some c := e1
    have hi : i < n := by
      have := (List.getElem?_eq_some_iff.mp e1).1
      rw [List.length_take] at this
      omega
    have q := r.cell i c a (by rw [← List.getElem?_take_of_lt hi]; exact e1) (by rw [← List.getElem?_take_of_lt hi]; exact e2)
    exact q.cut r.sameLent (List.all_eq_true.mp hb c (List.mem_of_getElem? e1))
  · unfold lentF
    rw [if_neg fun z => take_drop_ne r.nd ha z]
    exact r.sep a (List.mem_of_mem_take ha)
theorem lend_rel (r : Rel G ρ F st σ H) : ∀ {ds : List D} {vs : List V}, RVs G.K ρ F ds vs → belows n (ds.map (lendD n st.cs)) = true → RVs G.K (ρ.take n) (lentF ρ n F H) (ds.map (lendD n st.cs)) vs
  | _, _, .nil, _ => .nil
  | d :: ds, v :: vs, .cons h t, e => by
    rw [List.map_cons] at e ⊢
    simp only [belows, Bool.and_eq_true] at e
    refine .cons ?_ (lend_rel r t e.2)
    have e := e.1
    cases h with
    | @loc m a h =>
      unfold lendD at e ⊢
      simp only at e ⊢
      by_cases c : m < n
      · rw [if_pos c] at e ⊢
        exact .loc (by rw [List.getElem?_take_of_lt c]; exact h)
      · rw [if_neg c] at e ⊢
        cases q : st.cs[m]? with
        | none => simp only [q, below, decide_eq_true_eq] at e; exact absurd e c
        | some c0 =>
          cases c0 with
          | lst es =>
            simp only [q, below] at e ⊢
            obtain ⟨vs, h1, h2⟩ := r.cell m _ _ q h
            have hm : a ∈ ρ.drop n := by
              refine List.mem_of_getElem? (i := m - n) ?_
              rw [List.getElem?_drop, Nat.add_sub_cancel' (by omega)]
              exact h
            refine .lst ?_ (h2.cut r.sameLent e)
            unfold lentF
            rw [if_pos hm, h1]
          | dk _ _ => simp only [q, below, decide_eq_true_eq] at e; exact absurd e c
          | ins _ _ _ => simp only [q, below, decide_eq_true_eq] at e; exact absurd e c
    | non => exact .non
    | bl b => exact .bl b
    | int i => exact .int i
    | str x => exact .str x
    | tup h1 h2 => exact RV.cut r.sameLent (.tup h1 h2) e
    | lst h1 h2 => exact RV.cut r.sameLent (.lst h1 h2) e
    | frl h1 h2 => exact RV.cut r.sameLent (.frl h1 h2) e
    | obj h1 h2 h3 => exact RV.cut r.sameLent (.obj h1 h2 h3) e
/-- what is frozen behind the call and is no lent list stays behind -/
theorem lent_back {Fl : Hp} (r : Rel G ρ F st σ H) (hf : ∀ a o, Fl a = some o → lentF ρ n F H a = some o ∨ H a = none) {a : Addr} {o : HO} (e : Fl a = some o) (hno : ∀ vs, o ≠ .lst vs) : backF ρ n Fl a = some o := by
  unfold backF
  by_cases h : a ∈ ρ.drop n
  · rcases hf a o e with q | q
    · unfold lentF at q
      rw [if_pos h] at q
      cases z : H a with
      | none => rw [z] at q; cases q
      | some u =>
        rw [z] at q
        cases u <;> first | (cases q; exact absurd rfl (hno _)) | cases q
    · exact absurd (drop_mem h) (r.free q)
  · rw [if_neg h]; exact e
mutual
theorem RV.lentBack {Fl : Hp} (r : Rel G ρ F st σ H) (hf : ∀ a o, Fl a = some o → lentF ρ n F H a = some o ∨ H a = none) : ∀ {d : D} {v : V}, RV G.K (ρ.take n) Fl d v → noLst d = true → RV G.K ρ (backF ρ n Fl) d v
  | _, _, .non, _ => .non
  | _, _, .bl b, _ => .bl b
  | _, _, .int i, _ => .int i
  | _, _, .str x, _ => .str x
  | _, _, .tup h t, e => .tup (by
      rcases h with (h | ⟨o, h⟩) | h
      · exact .inl (.inl (lent_back r hf h fun vs z => nomatch z))
      · exact .inl (.inr ⟨o, lent_back r hf h fun vs z => nomatch z⟩)
      · exact .inr h) (RVs.lentBack r hf t (by simpa [noLst] using e))
  | _, _, .lst _ _, e => by simp [noLst] at e
  | _, _, .frl _ _, e => by simp [noLst] at e
  | _, _, .obj h l t, e => .obj (lent_back r hf h fun vs z => nomatch z) l (RVs.lentBack r hf t (by simpa [noLst] using e))
  | _, _, .loc h, _ => .loc (by
      obtain ⟨h1, h2⟩ := List.getElem?_eq_some_iff.mp h
      rw [List.length_take] at h1
      rw [List.getElem?_take_of_lt (by omega)] at h
      exact h)
theorem RVs.lentBack {Fl : Hp} (r : Rel G ρ F st σ H) (hf : ∀ a o, Fl a = some o → lentF ρ n F H a = some o ∨ H a = none) : ∀ {ds : List D} {vs : List V}, RVs G.K (ρ.take n) Fl ds vs → noLsts ds = true → RVs G.K ρ (backF ρ n Fl) ds vs
  | _, _, .nil, _ => .nil
  | _, _, .cons h t, e => by
    simp only [noLsts, Bool.and_eq_true] at e
    exact .cons (RV.lentBack r hf h e.1) (RVs.lentBack r hf t e.2)
end
theorem cellLentBack {Fl : Hp} {a : Addr} (r : Rel G ρ F st σ H) (hf : ∀ a o, Fl a = some o → lentF ρ n F H a = some o ∨ H a = none) : ∀ {c : Cell}, CellAt G.K (ρ.take n) Fl H' a c → noLstC c = true → CellAt G.K ρ (backF ρ n Fl) H' a c
  | .lst _, ⟨_, h, t⟩, e => ⟨_, h, RVs.lentBack r hf t e⟩
  | .dk _ _, ⟨_, h, l, t⟩, e => ⟨_, h, l, RVs.lentBack r hf t e⟩
  | .ins _ _ _, ⟨_, _, h, l, t⟩, e => ⟨_, _, h, l, RVs.lentBack r hf t e⟩
/-- behind the call: the caller's state again; ok: cells and value can be read without what was lent -/
theorem Rel.afterN {Fl : Hp} {ρ' : List Addr} {cs' : List Cell} (r : Rel G ρ F st σ H) (hn : n ≤ st.cs.length) (x : Ext (ρ.take n) (lentF ρ n F H) ρ' Fl) (r' : Rel ⟨G.K, H, lentF ρ n F H, ρ.take n⟩ ρ' Fl ⟨[], cs'⟩ [] H') (hl : cs'.length = n)
    (hc : ∀ c a, c ∈ cs' → CellAt G.K (ρ.take n) Fl H' a c → CellAt G.K ρ (backF ρ n Fl) H' a c) :
    ρ' = ρ.take n ∧ Ext ρ F ρ (backF ρ n Fl) ∧ Rel G ρ (backF ρ n Fl) ⟨st.env, cs' ++ st.cs.drop n⟩ σ H' := by
  have eρ : ρ' = ρ.take n := by
    obtain ⟨t, ht⟩ := x.pre
    have hlen : ρ'.length = n := by rw [show ρ'.length = cs'.length from r'.cl, hl]
    have : t = [] := by
      have := congrArg List.length ht
      rw [List.length_append, List.length_take, hlen, r.cl] at this
      exact List.length_eq_zero_iff.mp (by omega)
    rw [← ht, this, List.append_nil]
  subst eρ
  have hsF : Same F (backF ρ n Fl) := fun a o e => by
    unfold backF
    rw [if_neg fun z => by rw [r.sep a (drop_mem z)] at e; cases e]
    exact x.fz a o (r.sameLent a o e)
  have y : Ext ρ F ρ (backF ρ n Fl) := ⟨List.prefix_refl _, hsF⟩
  have hsH : Same (backF ρ n Fl) H' := fun a o e => by
    unfold backF at e
    by_cases h : a ∈ ρ.drop n
    · rw [if_pos h] at e; cases e
    · rw [if_neg h] at e
      exact r'.fz a o e
  have keepD : ∀ a ∈ ρ.drop n, H' a = H a := fun a ha => by
    obtain ⟨o, e⟩ := r.inρ (drop_mem ha)
    rw [e]
    exact r'.fr a o e fun z => take_drop_ne r.nd z ha
  refine ⟨rfl, y, ⟨r.len, fun i d e => ?_, ?_, fun i c a e1 e2 => ?_, r.nd, hsH, fun a ha => ?_, fun a o e1 e2 => ?_, r.own, fun a o e => ?_, r.old.trans hsF, r.a0⟩⟩
  · obtain ⟨v, e1, e2⟩ := r.env i d e
    exact ⟨v, e1, e2.ext y⟩
  · show ρ.length = (cs' ++ st.cs.drop n).length
    rw [List.length_append, List.length_drop, hl, r.cl]
    omega
  · have e1 : (cs' ++ st.cs.drop n)[i]? = some c := e1
    by_cases hi : i < n
    · rw [List.getElem?_append_left (by rw [hl]; exact hi)] at e1
      exact hc c a (List.mem_of_getElem? e1) (r'.cell i c a e1 (by rw [List.getElem?_take_of_lt hi]; exact e2))
    · rw [List.getElem?_append_right (by rw [hl]; omega), hl, List.getElem?_drop, Nat.add_sub_cancel' (by omega)] at e1
      have hm : a ∈ ρ.drop n := by
        refine List.mem_of_getElem? (i := i - n) ?_
        rw [List.getElem?_drop, Nat.add_sub_cancel' (by omega)]
        exact e2
      exact (r.cell i c a e1 e2).ext y (keepD a hm)
  · unfold backF
    by_cases h : a ∈ ρ.drop n
    · rw [if_pos h]
    · rw [if_neg h]
      have : a ∈ ρ.take n := by
        rw [← List.take_append_drop n ρ] at ha
        exact (List.mem_append.mp ha).resolve_right h
      exact r'.sep a this
  · refine r'.fr a o (r.fr a o e1 e2) fun z => ?_
    rcases r.own a (List.mem_of_mem_take z) with q | q
    · exact e2 q
    · rw [q] at e1; cases e1
  · unfold backF at e
    by_cases h : a ∈ ρ.drop n
    · rw [if_pos h] at e; cases e
    · rw [if_neg h] at e
      rcases r'.new a o e with q | q
      · have q : lentF ρ n F H a = some o := q
        unfold lentF at q
        rw [if_neg h] at q
        exact r.new a o q
      · exact .inr (r.free0 q)
end

section
variable {n m k : Nat} {fn : Fn} {Q : VK} {ds : List D} {vs : List V}
theorem below_cell_mono {c : Cell} {K : Kt} {ρ : List Addr} {F H : Hp} {a : Addr} (h : CellAt K (ρ.take n) F H a c) : CellAt K ρ F H a c := h.ext ⟨List.take_prefix _ _, Same.refl _⟩ rfl
theorem noLent {Fl : Hp} (r : Rel G ρ F st σ H) (hF : ∀ a ∈ ρ.drop n, Fl a = none) : backF ρ n Fl = Fl := by
  funext a
  unfold backF
  by_cases h : a ∈ ρ.drop n
  · rw [if_pos h, hF a h]
  · rw [if_neg h]
/-- nothing is lent: the entry with F itself -/
theorem Rel.entryP (r : Rel G ρ F st σ H) (hb : (st.cs.take n).all (belowC n) = true) : Rel ⟨G.K, H, F, ρ.take n⟩ (ρ.take n) F ⟨[], st.cs.take n⟩ [] H := by
  refine ⟨rfl, fun i d e => by simp at e, ?_, fun i c a e1 e2 => ?_, r.nd.sublist (List.take_sublist _ _), r.fz, fun a ha => r.sep a (List.mem_of_mem_take ha), fun _ _ h _ => h, fun _ h => .inl h, fun _ _ h => .inl h, Same.refl _, List.prefix_refl _⟩
  · show (ρ.take n).length = (st.cs.take n).length
    rw [List.length_take, List.length_take, r.cl]
  · have e1 : (st.cs.take n)[i]? = some c := e1
    have hi : i < n := by
      have := (List.getElem?_eq_some_iff.mp e1).1
      rw [List.length_take] at this
      omega
    have q := r.cell i c a (by rw [← List.getElem?_take_of_lt hi]; exact e1) (by rw [← List.getElem?_take_of_lt hi]; exact e2)
    exact q.cut (Same.refl _) (List.all_eq_true.mp hb c (List.mem_of_getElem? e1))
theorem lend_below : ∀ {ds : List D} {cs : List Cell}, belows n ds = true → ds.map (lendD n cs) = ds
  | [], _, _ => rfl
  | d :: ds, cs, e => by
    simp only [belows, Bool.and_eq_true] at e
    rw [List.map_cons, lend_below e.2]
    congr 1
    cases d with
    | loc m =>
      have h := e.1
      simp only [below, decide_eq_true_eq] at h
      unfold lendD
      simp only [h, if_true]
    | _ => rfl
theorem Rel.afterP {Fl : Hp} {ρ' : List Addr} {cs' : List Cell} {H' : Hp} (r : Rel G ρ F st σ H) (hn : n ≤ st.cs.length) (x : Ext (ρ.take n) F ρ' Fl) (r' : Rel ⟨G.K, H, F, ρ.take n⟩ ρ' Fl ⟨[], cs'⟩ [] H') (hl : cs'.length = n) :
    ρ' = ρ.take n ∧ Ext ρ F ρ Fl ∧ Rel G ρ Fl ⟨st.env, cs' ++ st.cs.drop n⟩ σ H' := by
  have eρ : ρ' = ρ.take n := by
    obtain ⟨t, ht⟩ := x.pre
    have hlen : ρ'.length = n := by rw [show ρ'.length = cs'.length from r'.cl, hl]
    have : t = [] := by
      have := congrArg List.length ht
      rw [List.length_append, List.length_take, hlen, r.cl] at this
      exact List.length_eq_zero_iff.mp (by omega)
    rw [← ht, this, List.append_nil]
  subst eρ
  have y : Ext ρ F ρ Fl := ⟨List.prefix_refl _, x.fz⟩
  have keepD : ∀ a ∈ ρ.drop n, H' a = H a := fun a ha => by
    obtain ⟨o, e⟩ := r.inρ (drop_mem ha)
    rw [e]
    exact r'.fr a o e fun z => take_drop_ne r.nd z ha
  refine ⟨rfl, y, ⟨r.len, fun i d e => ?_, ?_, fun i c a e1 e2 => ?_, r.nd, r'.fz, fun a ha => ?_, fun a o e1 e2 => ?_, r.own, fun a o e => ?_, r.old.trans x.fz, r.a0⟩⟩
  · obtain ⟨v, e1, e2⟩ := r.env i d e
    exact ⟨v, e1, e2.ext y⟩
  · show ρ.length = (cs' ++ st.cs.drop n).length
    rw [List.length_append, List.length_drop, hl, r.cl]
    omega
  · have e1 : (cs' ++ st.cs.drop n)[i]? = some c := e1
    by_cases hi : i < n
    · rw [List.getElem?_append_left (by rw [hl]; exact hi)] at e1
      exact below_cell_mono (r'.cell i c a e1 (by rw [List.getElem?_take_of_lt hi]; exact e2))
    · rw [List.getElem?_append_right (by rw [hl]; omega), hl, List.getElem?_drop, Nat.add_sub_cancel' (by omega)] at e1
      have hm : a ∈ ρ.drop n := by
        refine List.mem_of_getElem? (i := i - n) ?_
        rw [List.getElem?_drop, Nat.add_sub_cancel' (by omega)]
        exact e2
      exact (r.cell i c a e1 e2).ext y (keepD a hm)
  · cases q : Fl a with
    | none => rfl
    | some o =>
      rcases r'.new a o q with z | z
      · have z : F a = some o := z
        rw [r.sep a ha] at z; cases z
      · exact absurd ha (r.free z)
  · refine r'.fr a o (r.fr a o e1 e2) fun z => ?_
    rcases r.own a (List.mem_of_mem_take z) with q | q
    · exact e2 q
    · rw [q] at e1; cases e1
  · rcases r'.new a o e with q | q
    · exact r.new a o q
    · exact .inr (r.free0 q)
theorem callV_of (r : Rel G ρ F st σ H) (rv : RVs G.K ρ F ds vs) (hm : ds.length = m) (p : Post RV G W ρ F st.env σ Q (callV n fn ds st.cs)) : spF G.K m fn vs H Q (WE W σ) := by
  unfold callV at p
  by_cases c : n ≤ st.cs.length ∧ belows n (ds.map (lendD n st.cs)) = true ∧ (st.cs.take n).all (belowC n) = true
  · rw [if_pos c] at p
    obtain ⟨hn, hb, hc⟩ := c
    by_cases hbe : belows n ds = true
    · rw [lend_below hbe] at p
      refine ⟨ρ.take n, F, ds, st.cs.take n, r.entryP hc, rv.cut (Same.refl _) hbe, hm, ?_⟩
      cases q : fn ds (st.cs.take n) with
      | no => rw [q] at p; exact p
      | ok d cs' =>
        rw [q] at p
        by_cases hl : cs'.length = n
        · simp only [hl, hbe, true_and, true_or, if_true] at p
          intro ρ' F' H' v x r' rv'
          obtain ⟨e, y, r2⟩ := r.afterP hn x r' hl
          subst e
          exact p ρ F' H' v y r2 (rv'.ext ⟨List.take_prefix _ _, Same.refl _⟩)
        · simp only [hl, false_and, if_false] at p
          exact p.elim
      | ex e cs' =>
        rw [q] at p
        by_cases hl : cs'.length = n
        · simp only [hl, hbe, true_and, true_or, if_true] at p
          intro ρ' F' H' cls dx x r' xa
          obtain ⟨e, y, r2⟩ := r.afterP hn x r' hl
          subst e
          obtain ⟨x1, x2, x3, x4, x5, x6, x7⟩ := xa
          exact p ρ F' H' cls dx y r2 ⟨x1, x2, x3, x4, x5, x6, x7.ext ⟨List.take_prefix _ _, Same.refl _⟩⟩
        · simp only [hl, false_and, if_false] at p
          exact p.elim
    · refine ⟨ρ.take n, lentF ρ n F H, ds.map (lendD n st.cs), st.cs.take n, r.entryN hn hc, lend_rel r rv hb, by rw [List.length_map]; exact hm, ?_⟩
      cases q : fn (ds.map (lendD n st.cs)) (st.cs.take n) with
      | no => rw [q] at p; exact p
      | ok d cs' =>
        rw [q] at p
        have p : Post RV G W ρ F st.env σ Q (if cs'.length = n ∧ (belows n ds = true ∨ (noLst d = true ∧ cs'.all noLstC = true)) then .ok d (cs' ++ st.cs.drop n) else .no) := p
        by_cases hl : cs'.length = n ∧ noLst d = true ∧ cs'.all noLstC = true
        · simp only [hl, hbe, true_and, and_self, or_true, if_true] at p
          intro ρ' F' H' v x r' rv'
          have hf : ∀ a o, F' a = some o → lentF ρ n F H a = some o ∨ H a = none := r'.new
          obtain ⟨e, y, r2⟩ := r.afterN hn x r' hl.1 fun c a hc2 h2 => cellLentBack r hf h2 (List.all_eq_true.mp hl.2.2 c hc2)
          subst e
          exact p ρ _ H' v y r2 (RV.lentBack r hf rv' hl.2.1)
        · rw [if_neg (by rintro ⟨z1, z2⟩; exact hl ⟨z1, z2.resolve_left hbe⟩)] at p
          exact p.elim
      | ex e cs' =>
        rw [q] at p
        have p : Post RV G W ρ F st.env σ Q (if cs'.length = n ∧ (belows n ds = true ∨ (noLsts e.ds = true ∧ cs'.all noLstC = true)) then .ex e (cs' ++ st.cs.drop n) else .no) := p
        by_cases hl : cs'.length = n ∧ noLsts e.ds = true ∧ cs'.all noLstC = true
        · simp only [hl, hbe, true_and, and_self, or_true, if_true] at p
          intro ρ' F' H' cls dx x r' xa
          have hf : ∀ a o, F' a = some o → lentF ρ n F H a = some o ∨ H a = none := r'.new
          obtain ⟨e', y, r2⟩ := r.afterN hn x r' hl.1 fun c a hc2 h2 => cellLentBack r hf h2 (List.all_eq_true.mp hl.2.2 c hc2)
          subst e'
          obtain ⟨x1, x2, x3, x4, x5, x6, x7⟩ := xa
          exact p ρ _ H' cls dx y r2 ⟨x1, x2, x3, x4, lent_back r hf x5 (fun vs z => nomatch z), x6, RVs.lentBack r hf x7 hl.2.1⟩
        · rw [if_neg (by rintro ⟨z1, z2⟩; exact hl ⟨z1, z2.resolve_left hbe⟩)] at p
          exact p.elim
  · rw [if_neg c] at p
    exact p.elim
/-- f(..) -/
def eCall (n : Nat) (fn : Fn) (g : Ax) : Ex := fun st => (g st).bind fun ds c1 => callV n fn ds c1
variable {f : Addr} {fd : FuncData} {ps : List Str} {x : Str} {p : Pos}
theorem de_call {n : Nat} (hK : G.K.K = X.K) (tk : Takes X W) (hF : FnOk X.prog X.w X.K X.mg X.base (L2.CX X.prog X.w) k f fd ps (spF G.K ps.length fn)) (hr : Room k X.A) (hg : Gl X x) (hm : X.mg x = some (.ref f)) (hk : PySem.W.keepIn X.K (.ref f) = true) (hb : Binds X.K fd ps [])
    (ha : PA X (e :: es) (tAs G W g)) (hlen : ∀ st ds c1, g st = .ok ds c1 → ds.length = ps.length) (hdb : (x == ("__debug__" : Str)) = false := by decide) (he : starEach (e :: es) X.env = (false, eval e X.env) :: starEach es X.env := by rfl) (hpl : (backTo pos (starEach es X.env)).any (·.1) = false := by rfl) :
    PE X (.Call (.Name x p) (e :: es) [] pos) (tE G W (eCall n fn g)) :=
  (pe_callS hF hr hg hm hk hb (fun σ => passAt tk σ) ha hdb he hpl).impV fun σ H Q ⟨ρ, F, st, r, p⟩ => by
    unfold eCall at p
    cases q : g st with
    | no => rw [q] at p; exact p.elim
    | ex e' cs => rw [q] at p; exact ⟨ρ, F, st, r, by rw [q]; exact p⟩
    | ok ds c1 =>
      rw [q] at p
      have p : Post RV G W ρ F st.env σ Q (callV n fn ds c1) := p
      refine ⟨ρ, F, st, r, ?_⟩
      rw [q]
      exact fun ρ1 F1 H1 vs x1 r1 rv1 => callV_of (st := ⟨st.env, c1⟩) r1 rv1 (hlen _ _ _ q) (Post.ext x1 p)
theorem de_callAll (hK : G.K.K = X.K) (tk : Takes X W) (hF : FnOk X.prog X.w X.K X.mg X.base (L2.CX X.prog X.w) k f fd ps (spF G.K ps.length fn)) (hr : Room k X.A) (hg : Gl X x) (hm : X.mg x = some (.ref f)) (hk : PySem.W.keepIn X.K (.ref f) = true) (hb : Binds X.K fd ps [])
    (ha : PA X (e :: es) (tAs G W g)) (hlen : ∀ st ds c1, g st = .ok ds c1 → ds.length = ps.length) (hdb : (x == ("__debug__" : Str)) = false := by decide) (he : starEach (e :: es) X.env = (false, eval e X.env) :: starEach es X.env := by rfl) (hpl : (backTo pos (starEach es X.env)).any (·.1) = false := by rfl) :
    PE X (.Call (.Name x p) (e :: es) [] pos) (tE G W (eCallAll fn g)) :=
  (pe_callS hF hr hg hm hk hb (fun σ => passAt tk σ) ha hdb he hpl).impV fun σ H Q ⟨ρ, F, st, r, p⟩ => by
    unfold eCallAll at p
    cases q : g st with
    | no => rw [q] at p; exact p.elim
    | ex e' cs => rw [q] at p; exact ⟨ρ, F, st, r, by rw [q]; exact p⟩
    | ok ds c1 =>
      rw [q] at p
      have p : Post RV G W ρ F st.env σ Q (fn ds c1) := p
      refine ⟨ρ, F, st, r, ?_⟩
      rw [q]
      exact fun ρ1 F1 H1 vs x1 r1 rv1 => callAll_of (st := ⟨st.env, c1⟩) r1 rv1 (hlen _ _ _ q) (Post.ext x1 p)
end
end
end VL

namespace VL
open PySem L2
/-! ### a def's own cells left behind -/
/-- what leaves the def: an own list, opened -/
def outD (n : Nat) (cs : List Cell) (d : D) : Option D := match d with
  | .loc m => if m < n then some (.loc m) else (match cs[m]? with
    | some (.lst ds) => if belows n ds then some (.lst ds) else none
    | _ => none)
  | d => if below n d then some d else none
def trimF (fn : Fn) : Fn := fun ds cs => match fn ds cs with
  | .ok d cs' => if (cs'.take cs.length).all (belowC cs.length) then (match outD cs.length cs' d with
    | some d' => .ok d' (cs'.take cs.length)
    | none => .no) else .no
  | .ex e cs' => if (cs'.take cs.length).all (belowC cs.length) && belows cs.length e.ds then .ex e (cs'.take cs.length) else .no
  | .no => .no
/-- the cells behind n become frozen -/
theorem Rel.trim {G : Gx} {ρ : List Addr} {F : Hp} {st : S} {σ : St} {H : Hp} (r : Rel G ρ F st σ H) (hn : G.A0.length ≤ st.cs.length) (hb : (st.cs.take G.A0.length).all (belowC G.A0.length) = true) (x : Ext G.A0 G.F0 ρ F) :
    Same F (lentF ρ G.A0.length F H) ∧ Ext G.A0 G.F0 G.A0 (lentF ρ G.A0.length F H) ∧ Rel G G.A0 (lentF ρ G.A0.length F H) ⟨[], st.cs.take G.A0.length⟩ [] H := by
  have eρ : ρ.take G.A0.length = G.A0 := by
    obtain ⟨t, ht⟩ := x.pre
    rw [← ht, List.take_left]
  have hs := r.sameLent (n := G.A0.length)
  have e := r.entryN hn hb
  refine ⟨hs, ⟨List.prefix_refl _, x.fz.trans hs⟩, ⟨rfl, fun i d e => by simp at e, ?_, fun i c a e1 e2 => ?_, ?_, e.fz, fun a ha => ?_, r.fr, fun a ha => .inl ha, fun a o q => ?_, x.fz.trans hs, List.prefix_refl _⟩⟩
  · have := e.cl
    rw [eρ] at this
    exact this
  · have := e.cell i c a e1 (by rw [eρ]; exact e2)
    rw [eρ] at this
    exact this
  · have := e.nd
    rw [eρ] at this
    exact this
  · exact e.sep a (by rw [eρ]; exact ha)
  · unfold lentF at q
    by_cases h : a ∈ ρ.drop G.A0.length
    · rcases r.own a (drop_mem h) with z | z
      · exact (take_drop_ne r.nd (by rw [eρ]; exact z) h).elim
      · exact .inr z
    · rw [if_neg h] at q
      exact r.new a o q
theorem trim_of {K : Kt} {n : Nat} {fn : Fn} (vs : List V) (H : Hp) (Q : VK) (E : XK) (h : spF K n (trimF fn) vs H Q E) : spF K n fn vs H Q E := by
  obtain ⟨ρ0, F0, ds, cs, r, rv, hl, p⟩ := h
  refine ⟨ρ0, F0, ds, cs, r, rv, hl, ?_⟩
  have hc : ρ0.length = cs.length := r.cl
  unfold trimF at p
  cases q : fn ds cs with
  | no => rw [q] at p; exact p
  | ex e cs' =>
    rw [q] at p
    simp only at p
    by_cases c : ((cs'.take cs.length).all (belowC cs.length) && belows cs.length e.ds) = true
    · rw [if_pos c] at p
      rw [Bool.and_eq_true] at c
      intro ρ F H' cls dx x r' xa
      have hle : ρ0.length ≤ cs'.length := by
        have := x.pre.length_le
        rw [show ρ.length = cs'.length from r'.cl] at this
        exact this
      obtain ⟨s1, x1, r1⟩ := r'.trim hle (by show (cs'.take ρ0.length).all (belowC ρ0.length) = true; rw [hc]; exact c.1) x
      obtain ⟨y1, y2, y3, y4, y5, y6, y7⟩ := xa
      have eρ : ρ.take cs.length = ρ0 := by
        obtain ⟨t, ht⟩ := x.pre
        have ht : ρ0 ++ t = ρ := ht
        rw [← ht, ← hc, List.take_left]
      have q7 := y7.cut (n := cs.length) s1 c.2
      rw [eρ] at q7
      refine p ρ0 _ H' cls dx x1 ?_ ⟨y1, y2, y3, y4, s1 _ _ y5, y6, q7⟩
      rw [← hc]; exact r1
    · rw [if_neg c] at p
      exact p.elim
  | ok d cs' =>
    rw [q] at p
    simp only at p
    by_cases c : (cs'.take cs.length).all (belowC cs.length) = true
    · rw [if_pos c] at p
      cases q2 : outD cs.length cs' d with
      | none => rw [q2] at p; exact p.elim
      | some d' =>
        rw [q2] at p
        simp only at p
        intro ρ F H' v x r' rv'
        have hle : ρ0.length ≤ cs'.length := by
          have := x.pre.length_le
          rw [show ρ.length = cs'.length from r'.cl] at this
          exact this
        obtain ⟨s1, x1, r1⟩ := r'.trim hle (by show (cs'.take ρ0.length).all (belowC ρ0.length) = true; rw [hc]; exact c) x
        have eρ : ρ.take cs.length = ρ0 := by
          obtain ⟨t, ht⟩ := x.pre
          have ht : ρ0 ++ t = ρ := ht
          rw [← ht, ← hc, List.take_left]
        have r1' : Rel ⟨K, H, F0, ρ0⟩ ρ0 (lentF ρ ρ0.length F H') ⟨[], cs'.take cs.length⟩ [] H' := by rw [← hc]; exact r1
        refine p ρ0 _ H' v x1 r1' ?_
        have low : below cs.length d = true → d' = d → RV K ρ0 (lentF ρ ρ0.length F H') d' v := fun hb e => by
          subst e
          have := rv'.cut (n := cs.length) s1 hb
          rw [eρ] at this
          exact this
        cases d with
        | loc m =>
          unfold outD at q2
          simp only at q2
          by_cases hm : m < cs.length
          · rw [if_pos hm] at q2
            exact low (by simp [below, hm]) (Option.some.inj q2).symm
          · rw [if_neg hm] at q2
            cases q3 : cs'[m]? with
            | none => rw [q3] at q2; cases q2
            | some c0 =>
              rw [q3] at q2
              cases c0 with
              | lst es =>
                simp only at q2
                by_cases hb : belows cs.length es = true
                · rw [if_pos hb] at q2
                  cases q2
                  cases rv' with
                  | @loc _ a h =>
                    obtain ⟨ws, h1, h2⟩ := r'.cell m _ _ q3 h
                    have hmem : a ∈ ρ.drop ρ0.length := by
                      refine List.mem_of_getElem? (i := m - ρ0.length) ?_
                      rw [List.getElem?_drop, Nat.add_sub_cancel' (by omega)]
                      exact h
                    have q7 := h2.cut (n := cs.length) s1 hb
                    rw [eρ] at q7
                    refine .lst ?_ q7
                    unfold lentF
                    rw [if_pos hmem, h1]
                · rw [if_neg hb] at q2
                  cases q2
              | dk _ _ => cases q2
              | ins _ _ _ => cases q2
        | _ =>
          unfold outD at q2
          simp only at q2
          split at q2
          · rename_i hb
            exact low hb (Option.some.inj q2).symm
          · cases q2
    · rw [if_neg c] at p
      exact p.elim
/-- another plain function: wherever it says something, fn says the same -/
theorem spF_ref {K : Kt} {n : Nat} {fn fn' : Fn} (hr : ∀ ds cs, fn' ds cs ≠ .no → fn ds cs = fn' ds cs) (vs : List V) (H : Hp) (Q : VK) (E : XK) (h : spF K n fn' vs H Q E) : spF K n fn vs H Q E := by
  obtain ⟨ρ0, F0, ds, cs, r, rv, hl, p⟩ := h
  refine ⟨ρ0, F0, ds, cs, r, rv, hl, ?_⟩
  by_cases c : fn' ds cs = .no
  · rw [c] at p; exact p.elim
  · rw [hr ds cs c]; exact p
section
variable {P : Program} {w : World} {K : Kt} {mg : Str → Option Value} {base : Heap} {CX : CXT} {k : Nat} {f : Addr} {fd : FuncData} {ps : List Str} {fn fn' : Fn} {n : Nat}
theorem fnTrim (F : FnOk P w K.K mg base CX k f fd ps (spF K n fn)) : FnOk P w K.K mg base CX k f fd ps (spF K n (trimF fn)) := F.imp trim_of
theorem fnRef (F : FnOk P w K.K mg base CX k f fd ps (spF K n fn)) (hr : ∀ ds cs, fn' ds cs ≠ .no → fn ds cs = fn' ds cs) : FnOk P w K.K mg base CX k f fd ps (spF K n fn') := F.imp (spF_ref hr)
end
/-! ### built-ins -/
section
variable {X : Cx} {G : Gx} {W : WX} {e a : Expr} {es : List Expr} {g : Ax} {pos p : Pos} {fa : Ex}
abbrev FB := List Cell → List D → Out D
def VN (G : Gx) (W : WX) (r : List V → Hp → VK → Prop) (h : FB) : Prop := ∀ (ρ : List Addr) (F : Hp) (st : S) (σ : St) (H : Hp) (ds : List D) (vs : List V) (Q : VK), Rel G ρ F st σ H → RVs G.K ρ F ds vs → Post RV G W ρ F st.env σ Q (h st.cs ds) → r vs H Q
def eB (h : FB) (g : Ax) : Ex := fun st => (g st).bind fun ds c1 => h c1 ds
theorem tCB_of {r : List V → Hp → VK → Prop} {h : FB} (hv : VN G W r h) : ∀ σ H Q, tE G W (eB h g) σ H Q → tCB r (tAs G W g) σ H Q := fun σ H Q ⟨ρ, F, st, r, p⟩ =>
  seqX r p fun ρ1 F1 H1 ds c1 vs x1 r1 rv1 p1 => hv ρ1 F1 ⟨st.env, c1⟩ σ H1 ds vs Q r1 rv1 p1
theorem de_callB {id : String} {x : Str} {r : List V → Hp → VK → Prop} {h : FB} (hc : CallR X (.builtin id) r) (hv : VN G W r h) (hg : Gl X x) (hm : X.mg x = none) (hb : bootBuiltins x = some (.builtin id)) (ha : PA X (e :: es) (tAs G W g)) (hn : x ≠ "__name__" := by decide) (hdb : (x == ("__debug__" : Str)) = false := by decide)
    (he : starEach (e :: es) X.env = (false, eval e X.env) :: starEach es X.env := by rfl) (hpl : (backTo pos (starEach es X.env)).any (·.1) = false := by rfl) : PE X (.Call (.Name x p) (e :: es) [] pos) (tE G W (eB h g)) := (pe_callB hc hg hm hb ha hn hdb he hpl).impV (tCB_of hv)
theorem de_callTy {T : String} {x : Str} {r : List V → Hp → VK → Prop} {h : FB} (hc : CallR X (.type T) r) (hv : VN G W r h) (hg : Gl X x) (hm : X.mg x = none) (hb : bootBuiltins x = some (.type T)) (ha : PA X (e :: es) (tAs G W g)) (hn : x ≠ "__name__" := by decide) (hdb : (x == ("__debug__" : Str)) = false := by decide)
    (he : starEach (e :: es) X.env = (false, eval e X.env) :: starEach es X.env := by rfl) (hpl : (backTo pos (starEach es X.env)).any (·.1) = false := by rfl) : PE X (.Call (.Name x p) (e :: es) [] pos) (tE G W (eB h g)) := (pe_callTy hc hg hm hb ha hn hdb he hpl).impV (tCB_of hv)
def hLen : FB := fun cs ds => match ds with
  | [.str z] => if z.length ≤ 16777216 then .ok (.int (z.length : Nat)) cs else .no
  | [d] => (match seqOf cs d with
    | some xs => .ok (.int (xs.length : Nat)) cs
    | none => .no)
  | _ => .no
theorem vn_len : VN G W (fun xs H Q => ∃ x n, xs = [x] ∧ LenV G.K.K x H n ∧ Q (.int n) H) hLen := by
  intro ρ F st σ H ds vs Q r rv p
  unfold hLen at p
  split at p
  · cases rv with
    | cons h1 h2 =>
      cases h2
      cases h1
      rename_i z
      by_cases c : z.length ≤ 16777216
      · rw [if_pos c] at p
        exact ⟨_, _, rfl, ⟨line_of c, rfl⟩, p.here r (.int _)⟩
      · rw [if_neg c] at p
        exact p.elim
  · rename_i d _
    cases rv with
    | cons h1 h2 =>
      cases h2
      cases q : seqOf st.cs d with
      | none => rw [q] at p; exact p.elim
      | some xs =>
        rw [q] at p
        obtain ⟨a2, ws, rfl, s2, r2⟩ := seq_read r h1 q
        refine ⟨_, ws.length, rfl, ?_, ?_⟩
        · rcases s2 with s2 | s2
          · exact .inl ⟨ws, s2, rfl⟩
          · exact .inr ⟨ws, s2, rfl⟩
        · rw [← r2.length]
          exact p.here r (.int _)
  · exact p.elim
theorem de_len (hK : X.K = G.K.K) (hg : Gl X "len") (hm : X.mg "len" = none) (ha : PA X (e :: es) (tAs G W g)) (he : starEach (e :: es) X.env = (false, eval e X.env) :: starEach es X.env := by rfl) (hpl : (backTo pos (starEach es X.env)).any (·.1) = false := by rfl) : PE X (.Call (.Name "len" p) (e :: es) [] pos) (tE G W (eB hLen g)) :=
  de_callB call_len (by rw [hK]; exact vn_len) hg hm PySem.boot_len ha (he := he) (hpl := hpl)
def hInt : FB := fun cs ds => match ds with
  | [.int i] => .ok (.int i) cs
  | [.bl b] => .ok (.int (if b then 1 else 0)) cs
  | _ => .no
theorem de_int1 (hg : Gl X "int") (hm : X.mg "int" = none) (ha : PA X (e :: es) (tAs G W g)) (he : starEach (e :: es) X.env = (false, eval e X.env) :: starEach es X.env := by rfl) (hpl : (backTo pos (starEach es X.env)).any (·.1) = false := by rfl) : PE X (.Call (.Name "int" p) (e :: es) [] pos) (tE G W (eB hInt g)) :=
  de_callTy call_int1 (by
    intro ρ F st σ H ds vs Q r rv p
    unfold hInt at p
    split at p
    · cases rv with
      | cons h1 h2 =>
        cases h2
        cases h1
        exact .inl ⟨_, rfl, p.here r (.int _)⟩
    · cases rv with
      | cons h1 h2 =>
        cases h2
        cases h1
        exact .inr ⟨_, rfl, p.here r (.int _)⟩
    · exact p.elim) hg hm (by decide +kernel) ha (he := he) (hpl := hpl)
def hAbs : FB := fun cs ds => match ds with
  | [.int i] => .ok (.int (if i < 0 then -i else i)) cs
  | _ => .no
theorem de_abs (hg : Gl X "abs") (hm : X.mg "abs" = none) (ha : PA X (e :: es) (tAs G W g)) (he : starEach (e :: es) X.env = (false, eval e X.env) :: starEach es X.env := by rfl) (hpl : (backTo pos (starEach es X.env)).any (·.1) = false := by rfl) : PE X (.Call (.Name "abs" p) (e :: es) [] pos) (tE G W (eB hAbs g)) :=
  de_callB call_abs (by
    intro ρ F st σ H ds vs Q r rv p
    unfold hAbs at p
    split at p
    · cases rv with
      | cons h1 h2 =>
        cases h2
        cases h1
        exact ⟨_, rfl, p.here r (.int _)⟩
    · exact p.elim) hg hm (by decide +kernel) ha (he := he) (hpl := hpl)
def hTuple : FB := fun cs ds => match ds with
  | [.tup xs] => .ok (.tup xs) cs
  | [d] => (match lstOf cs d with
    | some xs => .ok (.tup xs) cs
    | none => .no)
  | _ => .no
theorem vn_tuple : VN G W (fun xs H Q => ∃ p ys, xs = [.ref p] ∧ ((SqL G.K.K H p ys ∧ ∀ l, H l = none → Q (.ref l) (upd H l (.tup ys))) ∨ (SqT G.K.K H p ys ∧ Q (.ref p) H))) hTuple := by
  intro ρ F st σ H ds vs Q r rv p
  unfold hTuple at p
  split at p
  · cases rv with
    | cons h1 h2 =>
      cases h2
      obtain ⟨a2, ws, rfl, s2, r2⟩ := tup_read r h1 rfl
      exact ⟨a2, ws, rfl, .inr ⟨s2, p.here r h1⟩⟩
  · rename_i d _
    cases rv with
    | cons h1 h2 =>
      cases h2
      cases q : lstOf st.cs d with
      | none => rw [q] at p; exact p.elim
      | some xs =>
        rw [q] at p
        obtain ⟨a2, ws, rfl, s2, r2⟩ := lst_read r h1 q
        refine ⟨a2, ws, rfl, .inl ⟨s2, fun l hl => ?_⟩⟩
        obtain ⟨x2, r3⟩ := r.fresh (o := .tup ws) hl
        exact p _ _ _ _ x2 r3 (.tup (SqT.of upd_same) (r2.ext x2))
  · exact p.elim
theorem de_tuple1 (hK : X.K = G.K.K) (hg : Gl X "tuple") (hm : X.mg "tuple" = none) (ha : PA X (e :: es) (tAs G W g)) (he : starEach (e :: es) X.env = (false, eval e X.env) :: starEach es X.env := by rfl) (hpl : (backTo pos (starEach es X.env)).any (·.1) = false := by rfl) : PE X (.Call (.Name "tuple" p) (e :: es) [] pos) (tE G W (eB hTuple g)) :=
  de_callTy call_tuple_of (by rw [hK]; exact vn_tuple) hg hm (by decide +kernel) ha (he := he) (hpl := hpl)
/-- list(x): frozen, or an own cell -/
def hList (own : Bool) : FB := fun cs ds => match ds with
  | [d] => (match seqOf cs d with
    | some xs => if own then newCell xs cs else .ok (.lst xs) cs
    | none => .no)
  | _ => .no
theorem vn_list {own : Bool} : VN G W (fun xs H Q => ∃ p ys, xs = [.ref p] ∧ (SqL G.K.K H p ys ∨ SqT G.K.K H p ys) ∧ ∀ l, H l = none → Q (.ref l) (upd H l (.lst ys))) (hList own) := by
  intro ρ F st σ H ds vs Q r rv p
  unfold hList at p
  split at p
  · rename_i d
    cases rv with
    | cons h1 h2 =>
      cases h2
      cases q : seqOf st.cs d with
      | none => rw [q] at p; exact p.elim
      | some xs =>
        rw [q] at p
        obtain ⟨a2, ws, rfl, s2, r2⟩ := seq_read r h1 q
        refine ⟨a2, ws, rfl, s2, fun l hl => ?_⟩
        cases own with
        | true => exact newCell_of r r2 hl p
        | false =>
          obtain ⟨x2, r3⟩ := r.fresh (o := .lst ws) hl
          exact p _ _ _ _ x2 r3 (.lst upd_same (r2.ext x2))
  · exact p.elim
theorem de_list1 (own : Bool) (hK : X.K = G.K.K) (hg : Gl X "list") (hm : X.mg "list" = none) (ha : PA X (e :: es) (tAs G W g)) (he : starEach (e :: es) X.env = (false, eval e X.env) :: starEach es X.env := by rfl) (hpl : (backTo pos (starEach es X.env)).any (·.1) = false := by rfl) : PE X (.Call (.Name "list" p) (e :: es) [] pos) (tE G W (eB (hList own) g)) :=
  de_callTy call_list_of (by rw [hK]; exact vn_list) hg hm (by decide +kernel) ha (he := he) (hpl := hpl)
/-! ints of a list -/
def intsOf : List D → Option (List Int)
  | [] => some []
  | .int i :: r => (intsOf r).map (i :: ·)
  | _ => none
theorem ints_rel {K : Kt} {ρ : List Addr} {F : Hp} : ∀ {ds : List D} {vs : List V} {ns : List Int}, RVs K ρ F ds vs → intsOf ds = some ns → vs = ns.map V.int
  | _, _, _, .nil, e => by cases e; rfl
  | _, _, _, @RVs.cons _ _ _ d ds v vs h r, e => by
    cases h with
    | int i =>
      unfold intsOf at e
      cases q : intsOf ds with
      | none => rw [q] at e; cases e
      | some l =>
        rw [q] at e
        cases e
        rw [ints_rel r q]
        rfl
    | _ => cases e
theorem ints_back {K : Kt} {ρ : List Addr} {F : Hp} : ∀ (ns : List Int), RVs K ρ F (ns.map D.int) (ns.map V.int)
  | [] => .nil
  | n :: r => .cons (.int n) (ints_back r)
def maxI : List Int → Int
  | [] => 0
  | [a] => a
  | a :: b :: r => max a (maxI (b :: r))
theorem maxI_mem : ∀ {l : List Int}, l ≠ [] → maxI l ∈ l ∧ ∀ y ∈ l, y ≤ maxI l
  | [], h => absurd rfl h
  | [a], _ => ⟨List.mem_singleton.mpr rfl, fun y hy => by rw [List.mem_singleton.mp hy]; exact Int.le_refl _⟩
  | a :: b :: r, _ => by
    obtain ⟨h1, h2⟩ := maxI_mem (l := b :: r) (by simp)
    unfold maxI
    refine ⟨?_, fun y hy => ?_⟩
    · by_cases c : a ≤ maxI (b :: r)
      · rw [Int.max_eq_right c]; exact List.mem_cons_of_mem _ h1
      · rw [Int.max_eq_left (by omega)]; exact List.mem_cons_self
    · rcases List.mem_cons.mp hy with rfl | hy
      · omega
      · have := h2 y hy
        omega
/-- max(xs), max(a, b) -/
def hMax : FB := fun cs ds => match ds with
  | [.int i, .int j] => .ok (.int (if j > i then j else i)) cs
  | [d] => (match lstOf cs d with
    | some xs => (match intsOf xs with
      | some ns => if ns.isEmpty then .no else .ok (.int (maxI ns)) cs
      | none => .no)
    | none => .no)
  | _ => .no
theorem max_uniq {l : List Int} {m : Int} (h : l ≠ []) (h1 : m ∈ l) (h2 : ∀ y ∈ l, y ≤ m) : m = maxI l := by
  obtain ⟨h3, h4⟩ := maxI_mem h
  have := h4 m h1
  have := h2 _ h3
  omega
theorem de_max (hK : X.K = G.K.K) (hc : X.calm = true) (hg : Gl X "max") (hm : X.mg "max" = none) (ha : PA X (e :: es) (tAs G W g)) (he : starEach (e :: es) X.env = (false, eval e X.env) :: starEach es X.env := by rfl) (hpl : (backTo pos (starEach es X.env)).any (·.1) = false := by rfl) : PE X (.Call (.Name "max" p) (e :: es) [] pos) (tE G W (eB hMax g)) :=
  de_callB (CallR.or (call_max2 hc) (cr_max hc)) (by
    rw [hK]
    intro ρ F st σ H ds vs Q r rv p
    cases rv with
    | nil => exact p.elim
    | @cons d _ v _ h1 h2 =>
      cases h2 with
      | nil =>
        have p : Post RV G W ρ F st.env σ Q (match lstOf st.cs d with
          | some xs => (match intsOf xs with
            | some ns => if ns.isEmpty then .no else .ok (.int (maxI ns)) st.cs
            | none => .no)
          | none => .no) := by cases d <;> exact p
        cases q : lstOf st.cs d with
        | none => rw [q] at p; exact p.elim
        | some xs =>
          rw [q] at p
          simp only at p
          obtain ⟨a2, ws, rfl, s2, r2⟩ := lst_read r h1 q
          cases q2 : intsOf xs with
          | none => rw [q2] at p; exact p.elim
          | some ns =>
            rw [q2] at p
            simp only at p
            have e := ints_rel r2 q2
            subst e
            cases ns with
            | nil => exact p.elim
            | cons n0 nr =>
              refine .inr ⟨a2, n0 :: nr, rfl, s2, by simp, fun m h1 h2 => ?_⟩
              rw [max_uniq (by simp) h1 h2]
              exact p.here r (.int _)
      | @cons d2 _ _ _ h2 h3 =>
        cases h3 with
        | cons _ _ => exact (by unfold hMax at p; split at p <;> first | (rename_i z; cases z) | exact p.elim)
        | nil =>
          unfold hMax at p
          split at p
          · rename_i e
            cases e
            cases h1
            cases h2
            exact .inl ⟨_, _, rfl, p.here r (.int _)⟩
          · rename_i e
            cases e
          · exact p.elim) hg hm (by decide +kernel) ha (he := he) (hpl := hpl)
/-! ### methods of lists -/
/-- xs.append(e) -/
def eAppend (fo f : Ex) : Ex := fun st => (fo st).bind fun x c1 => match x with
  | .loc n => (match c1[n]? with
    | some (.lst _) => (f ⟨st.env, c1⟩).bind fun y c2 => (match c2[n]? with
      | some (.lst ds) => if ds.length < 16777216 then .ok .non (c2.set n (.lst (ds ++ [y]))) else .no
      | _ => .no)
    | _ => .no)
  | _ => .no
theorem de_append {c : Expr} {fo f : Ex} (hK : X.K = G.K.K) (h : PE X c (tBM X.K "list" rAppend (tE G W fo) (tCons (tE G W f) tNil))) : PE X c (tE G W (eAppend fo f)) :=
  h.impV fun σ H Q ⟨ρ, F, st, r, p⟩ => seqX r p fun ρ1 F1 H1 x c1 v x1 r1 rv1 p1 => by
    cases rv1 with
    | @loc n a0 h1 =>
      simp only at p1
      cases q : c1[n]? with
      | none => rw [q] at p1; exact p1.elim
      | some c0 =>
        rw [q] at p1
        cases c0 with
        | dk _ _ => exact p1.elim
        | ins _ _ _ => exact p1.elim
        | lst ds0 =>
          simp only at p1
          obtain ⟨vs0, h2, h3⟩ := r1.cell n _ _ q h1
          refine ⟨.inl ⟨rfl, vs0, SqL.of h2⟩, ?_⟩
          refine seqX (st := ⟨st.env, c1⟩) (f := f) r1 p1 fun ρ2 F2 H2 y c2 w x2 r2 rv2 p2 => ?_
          cases q2 : c2[n]? with
          | none => rw [q2] at p2; exact p2.elim
          | some c0 =>
            rw [q2] at p2
            cases c0 with
            | dk _ _ => exact p2.elim
            | ins _ _ _ => exact p2.elim
            | lst ds =>
              simp only at p2
              by_cases c : ds.length < 16777216
              · rw [if_pos c] at p2
                obtain ⟨vs, h4, h5⟩ := r2.cell n _ _ q2 (x2.at h1)
                refine ⟨a0, vs, w, rfl, rfl, h4, by rw [← h5.length, sizeLine_eq]; exact c, ?_⟩
                exact p2 ρ2 F2 _ .non Ext.refl (r2.cellSet (st := ⟨st.env, c2⟩) (c := .lst (ds ++ [y])) (x2.at h1) ⟨_, upd_same, h5.append (RVs.one rv2)⟩) .non
              · rw [if_neg c] at p2
                exact p2.elim
    | _ => exact p1.elim
/-- xs.pop() -/
def ePop (fo : Ex) : Ex := fun st => (fo st).bind fun x c1 => match x with
  | .loc n => (match c1[n]? with
    | some (.lst ds) => (match ds.getLast? with
      | some y => .ok y (c1.set n (.lst ds.dropLast))
      | none => .no)
    | _ => .no)
  | _ => .no
theorem RVs.dropLast {K : Kt} {ρ : List Addr} {F : Hp} {ds : List D} {vs : List V} (h : RVs K ρ F ds vs) : RVs K ρ F ds.dropLast vs.dropLast := by
  rw [List.dropLast_eq_take, List.dropLast_eq_take, h.length]
  exact h.take _
theorem de_pop {c : Expr} {fo : Ex} (hK : X.K = G.K.K) (h : PE X c (tBM0 X.K "list" rPop (tE G W fo))) : PE X c (tE G W (ePop fo)) :=
  h.impV fun σ H Q ⟨ρ, F, st, r, p⟩ => seqX r p fun ρ1 F1 H1 x c1 v x1 r1 rv1 p1 => by
    cases rv1 with
    | @loc n a0 h1 =>
      simp only at p1
      cases q : c1[n]? with
      | none => rw [q] at p1; exact p1.elim
      | some c0 =>
        rw [q] at p1
        cases c0 with
        | dk _ _ => exact p1.elim
        | ins _ _ _ => exact p1.elim
        | lst ds =>
          simp only at p1
          obtain ⟨vs, h2, h3⟩ := r1.cell n _ _ q h1
          cases q2 : ds.getLast? with
          | none => rw [q2] at p1; exact p1.elim
          | some y =>
            rw [q2] at p1
            rw [List.getLast?_eq_getElem?] at q2
            obtain ⟨w, e1, e2⟩ := h3.get q2
            rw [h3.length] at e1
            refine ⟨.inl ⟨rfl, vs, SqL.of h2⟩, a0, vs, w, rfl, rfl, h2, e1, ?_⟩
            exact p1 ρ1 F1 _ w Ext.refl (r1.cellSet (st := ⟨st.env, c1⟩) (c := .lst ds.dropLast) h1 ⟨_, upd_same, h3.dropLast⟩) e2
    | _ => exact p1.elim
end
end VL

namespace VL
open PySem L2 PyProof.Rows
/-! ### the law itself, called from outside: no repr is under way -/
/-- the def at f keeps sp when it is called from outside -/
structure AtC (P : Program) (w : World) (K : PySem.W.Frag) (mg : Str → Option Value) (base : Heap) (CX : CXT) (k : Nat) (f : Addr) (fd : FuncData) (ps : List Str) (sp : Sp) : Prop where
  run : ∀ (s : Shared) (H : Hp) (args : Args) (us : List Value) (vs : List V) (Q : VK) (E : XK), Room k callerA → Env0 P w K mg base callerA [] s H → BindsTo s fd args (ps.zip us) → Vals vs us → sp vs H Q E →
    codeAny (model P w) callerA (.call (.ref f) args) (CR CX [] P w H s Q E) s
section
variable {P : Program} {w : World} {mg : Str → Option Value} {base : Heap}
theorem atC_of {K : PySem.W.Frag} {CX : CXT} {k : Nat} {f : Addr} {name qual : Str} {st : Stmt} {fd : FuncData} {N ps : List Str} {sp : Sp} (Fu : Fun K name qual st f fd) (Sc : FnScope N ps (defScope st)) (hlen : ∀ vs H Q E, sp vs H Q E → vs.length = ps.length)
    (body : ∀ (cdv : Value) (s : Shared) (H : Hp) (vs : List V) (Q : VK) (E : XK), Room k (callerA.deeper (envOfC qual (defScope st) s.heap.objs.size f cdv)) → sp vs H Q E →
      ∃ t, PSs (cxOf CX P w K mg base N qual (defScope st) f cdv callerA [] s H E) (defBody st) t ∧ t { nx := fun _ H1 => Q .non H1, rt := Q } (L2.start N vs) H) :
    AtC P w K mg base CX (k + 1) f fd ps sp := by
  obtain ⟨oc, od, kV, doc, pm, an, cdv, ct, osl, rfl, lk, hcd⟩ := Fu.ex
  constructor
  intro s H args us vs Q E room e0 bind vals hsp
  have kin : K.In s.heap := e0.mod.kin.keeps fun b o h => (e0.bs b o h).1
  have nol : s.heap.NoLimit := e0.mod.nolimit.keeps fun b o h => (e0.bs b o h).1
  have kinds : ∀ y ∈ ps.zip us, (defScope st).names.lookup y.1 = some .local ∨
      ((defScope st).names.lookup y.1 = some .cell ∧ ((cellsFrom (s.heap.objs.size + 1) (defScope st).names []).lookup y.1).isSome = true) := by
    rintro ⟨nm, val⟩ hy
    cases Sc.par nm (List.of_mem_zip hy).1 with
    | inl h => exact .inl h
    | inr h => exact .inr ⟨h, PySem.W.cellsFrom_some _ _ _ (.inl h)⟩
  refine codeAny_call_function room.depth (kin _ _ lk) rfl Sc.co Sc.gen rfl (PySem.W.codeRec_of kin hcd) ?_
  refine bind _ _ _ _ ?_
  refine wpAny_newFunctionEnv_cells Sc.kind kinds ?_
  rintro env rfl s1 x
  refine ⟨nol.keeps x.toInCall.keep, codeAny_func ?_⟩
  obtain ⟨t, pt, ht⟩ := body cdv s H vs Q E (room.deeper _) hsp
  have inv := inv_start (CX := CX) (P := P) (w := w) (K := K) (mg := mg) (base := base) (N := N) (ps := ps) (E := E) (A := callerA) (outer := []) Sc room.hd e0 (hlen _ _ _ _ hsp) vals x
  refine wpAny_mono (pt.run [] s1 _ H _ inv ht) ?_ fun _ _ h => h
  intro fl s' hs
  cases fl with
  | brk => obtain ⟨_, _, _, h⟩ := hs; exact h.elim
  | cont => obtain ⟨_, _, _, h⟩ := hs; exact h.elim
  | next =>
    obtain ⟨σ', H', J, h⟩ := hs
    exact ⟨V.non, H', J.os, J.bare, J.base, J.hok, rfl, h⟩
  | ret u =>
    obtain ⟨v, σ', H', J, rv, h⟩ := hs
    exact ⟨v, H', J.os, J.bare, J.base, J.hok, rv, h⟩
/-- the law's call, by that promise -/
theorem lawC {K : PySem.W.Frag} {mb : Str → Option Value} {CX : CXT} {k : Nat} {fa a : Addr} {fd : FuncData} {x : Str} {sp : Sp} {s₁ : Shared} {vs : List Value} {ns : List Int}
    (kin : K.In s₁.heap) (globs : s₁.heap.Ns mainGlobals mg) (blt : s₁.heap.Ns builtinsNs mb) (bb : ∀ x : Str, x ≠ "__name__" → mb x = bootBuiltins x) (nol : s₁.heap.NoLimit) (gens : s₁.gens = #[])
    (obj : s₁.heap.get? a = some { cls := .type "list", data := .seq vs.toArray }) (areInts : IntsAre vs ns) (size : ns.length ≤ sizeLine) (room : Room k callerA)
    (F : ∀ base : Heap, K.In base → base.Ns mainGlobals mg → AtC P w K mg base CX k fa fd [x] sp) (binds : ∀ (s : Shared) (u : Value), BindsTo s fd ⟨[u], []⟩ [(x, u)])
    (pre : ∀ H : Hp, Only H → SqL K H a (ns.map V.int) → sp [.ref a] H (fun v _ => v = .bl true) fun _ _ _ => False)
    (noX : ∀ H e s', CX [] H s₁ (fun _ _ _ => False) e s' → False) :
    codeAny (model P w) callerA (.call (.ref fa) ⟨[.ref a], []⟩) (fun r s' => r = .ok (.ret (.bool true)) ∧ OldK s₁.heap s'.heap ∧ s'.os = s₁.os ∧ AllBare s'.gens) s₁ := by
  have rv := vals_ints areInts
  have hlv := areInts.length
  have main : ∀ H : Hp, Only H → SqL K H a (ns.map V.int) → HOk P w H s₁.heap → (∀ b o, H b = some o → b = a ∧ K.lookup a = none) →
      codeAny (model P w) callerA (.call (.ref fa) ⟨[.ref a], []⟩) (fun r s' => r = .ok (.ret (.bool true)) ∧ OldK s₁.heap s'.heap ∧ s'.os = s₁.os ∧ AllBare s'.gens) s₁ := by
    intro H only sq hok hA
    have noDict : ∀ {b : Addr} {o : Obj} {es : Array DictEntry} {ep : Nat}, s₁.heap.get? b = some o → o.data = .dict es ep → H b = none := by
      intro b o es ep hb hd
      cases q : H b with
      | none => rfl
      | some u =>
        obtain ⟨rfl, _⟩ := hA b u q
        rw [obj] at hb
        cases hb
        exact nomatch hd
    have nsB : ∀ {b : Addr} {m : Str → Option Value}, s₁.heap.Ns b m → (hidT s₁.heap H).Ns b m := by
      rintro b m ⟨o, es, ep, h1, h2, h3⟩
      exact ⟨o, es, ep, hidT_get h1 (noDict h1 h2), h2, h3⟩
    have kinB : K.In (hidT s₁.heap H) := by
      intro b o hb
      refine hidT_get (kin b o hb) ?_
      cases q : H b with
      | none => rfl
      | some u =>
        obtain ⟨rfl, h2⟩ := hA b u q
        rw [h2] at hb
        cases hb
    have md : Mod K mg (hidT s₁.heap H) := by
      refine ⟨kinB, nsB globs, ⟨mb, nsB blt, bb⟩, ?_⟩
      obtain ⟨mc, h1, h2⟩ := nol
      exact ⟨mc, nsB h1, h2⟩
    have nomem : ∀ b : Addr, b ∉ frs [] := fun b z => absurd (show b ∈ ([] : List Addr) from z) (by simp)
    have env : Env0 P w K mg (hidT s₁.heap H) callerA [] s₁ H :=
      ⟨rfl, md, fun b o h => of_hidT h, Nat.le_of_eq (hidT_size _ _), trivial, fun b z => absurd z (nomem b), hok, .of_eq gens⟩
    refine codeAny_mono ((F _ kinB (nsB globs)).run s₁ H ⟨[.ref a], []⟩ [.ref a] [.ref a] _ _ room env (binds s₁ (.ref a)) (.cons rfl .nil) (pre H only sq)) ?_
    intro r s' h
    match r, h with
    | .error e, h => exact (noX H e s' h).elim
    | .ok .next, h => exact h.elim
    | .ok .brk, h => exact h.elim
    | .ok .cont, h => exact h.elim
    | .ok (.ret u), ⟨v, H', os, bare, un, hok', ru, hv⟩ =>
      have hv : v = .bl true := hv
      subst hv
      obtain rfl : u = Value.bool true := ru
      refine ⟨rfl, OldK.of_keep ?_, os, bare⟩
      intro b o hb
      cases q : H b with
      | none => exact un.keep b o hb q (nomem b) (by simp)
      | some u =>
        rcases only b with z | ⟨ob, xs, z⟩
        · rw [q] at z
          cases z
        · obtain ⟨h1, _⟩ := hok b _ z
          obtain ⟨h2, _⟩ := hok' b _ (un.frzs b ob _ z)
          rw [hb] at h1
          cases h1
          exact h2
  cases hk : K.lookup a with
  | some o =>
    have e := kin a o hk
    rw [obj] at e
    cases e
    refine main (fun _ => none) (fun _ => .inl rfl) (.inr ⟨_, vs.toArray, _, hk, rfl, rfl, rfl, ?_, ?_⟩) (fun b u z => nomatch z) (fun b u z => nomatch z)
    · rw [List.size_toArray, hlv]
      exact size
    · simpa using rv
  | none =>
    have at_a : ∀ b u, (if b = a then some (HO.frz { cls := .type "list", data := .seq vs.toArray } (.lst (ns.map V.int))) else none) = some u → b = a ∧ u = HO.frz { cls := .type "list", data := .seq vs.toArray } (.lst (ns.map V.int)) := by
      intro b u z
      by_cases hb : b = a
      · rw [if_pos hb] at z
        exact ⟨hb, (Option.some.inj z).symm⟩
      · rw [if_neg hb] at z
        cases z
    refine main (fun b => if b = a then some (.frz { cls := .type "list", data := .seq vs.toArray } (.lst (ns.map V.int))) else none) ?_ (.inl (.inr ⟨_, if_pos rfl⟩)) ?_ fun b u z => ⟨(at_a b u z).1, hk⟩
    · intro b
      by_cases hb : b = a
      · exact .inr ⟨_, _, if_pos hb⟩
      · exact .inl (if_neg hb)
    · intro b u z
      obtain ⟨rfl, rfl⟩ := at_a b u z
      refine ⟨obj, ?_, vs, _, rv, obj⟩
      rw [List.length_map]
      exact size
end
/-- THE END: k_head's goal, from a promise that holds from outside -/
theorem walkC {l : PySem.W.OpenLaw} {n k : Nat} {q : Program} {loose : List Str} {XP : (Str → Option Value) → Heap → Prop} {YP : World → Heap → Prop} {d : DefRec} {K : Params → PySem.W.Frag} {CX : World → CXT} {x : Str}
    (hn : l.most = some n) (hn2 : n ≤ sizeLine) (hdf : d.params.defaults = []) (hr : Room k callerA)
    (hY : ∀ (w : World) (h : Heap), YP w h → (K w.params).In h)
    (F : ∀ (w : World) (mg : Str → Option Value) (fa : Addr) (h : Heap), (K w.params).In h → h.Ns mainGlobals mg → mg d.name = some (.ref fa) →
      ∃ fd : FuncData, (∀ (s : Shared) (u : Value), BindsTo s fd ⟨[u], []⟩ [(x, u)]) ∧
        ∃ sp : Sp, (∀ base : Heap, (K w.params).In base → base.Ns mainGlobals mg → AtC l.prog w (K w.params) mg base (CX w) k fa fd [x] sp) ∧
          ∀ (H : Hp) (a : Addr) (ns : List Int), ns.length ≤ n → Only H → SqL (K w.params) H a (ns.map V.int) → sp [.ref a] H (fun v _ => v = .bl true) fun _ _ _ => False)
    (hCX : ∀ (w : World) (H : Hp) (s : Shared) (e : Value) (s' : Shared), CX w [] H s (fun _ _ _ => False) e s' → False) :
    PySem.W.WalkO q loose XP YP l.row.toRowW d [] (fun f vs => PySem.call f vs) := by
  refine Att.attach_call hn hdf ?_
  intro w s₀ s₁ mg mb fa o pm cd doc a vs ns G Y ho hd hcd hmg hobj hints hlen hg
  obtain ⟨fd, hb, sp, hF, hs⟩ := F w mg fa _ (hY w _ Y) G.T.g hmg
  refine lawC (hY w _ Y) G.T.g G.T.b G.T.builtins G.T.nolimit hg hobj hints (Nat.le_trans hlen hn2) hr hF hb ?_ ?_
  · intro H hO hS
    exact hs H a ns hlen hO hS
  · intro H e s'
    exact hCX w H s₁ e s'
/-- no exception with no wish -/
theorem noCX {P : Program} {w : World} (H : Hp) (s : Shared) (e : Value) (s' : Shared) (h : L2.CX P w [] H s (fun _ _ _ => False) e s') : False := by
  obtain ⟨a, B, H', cls, d, _, _, _, _, _, _, _, hE⟩ := h
  exact hE
/-- the law's body by a plain function over the script's ints -/
theorem lawV {P : Program} {w : World} {K : Kt} {mg : Str → Option Value} {base : Heap} {k : Nat} {f : Addr} {name qual x : Str} {st : Stmt} {fd : FuncData} {N : List Str} {body : Sx} (Fu : Fun K.K name qual st f fd) (Sc : FnScope N [x] (defScope st))
    (hbody : ∀ (G : Gx), G.K = K → ∀ (cdv : Value) (s : Shared) (H : Hp) (E : XK), Room k (callerA.deeper (envOfC qual (defScope st) s.heap.objs.size f cdv)) →
      PSs (cxOf (L2.CX P w) P w K.K mg base N qual (defScope st) f cdv callerA [] s H E) (defBody st) (tS G (fun cls d _ H' => E cls d H') body)) :
    AtC P w K.K mg base (L2.CX P w) (k + 1) f fd [x] (spF K 1 (runF N.length body)) := by
  refine atC_of Fu Sc (fun vs H Q E h => spF_len h) ?_
  intro cdv s H vs Q E hr h
  obtain ⟨G, e, t⟩ := body_of h
  exact ⟨_, hbody G e cdv s H E hr, t⟩
/-- the script, handed to the law -/
theorem law_pre {K : Kt} {n : Nat} {fn : Fn} (h : ∀ ns : List Int, ns.length ≤ n → ∃ cs, fn [.frl (ns.map D.int)] [] = .ok (.bl true) cs) (H : Hp) (a : Addr) (ns : List Int) (hl : ns.length ≤ n) (_ : Only H) (hs : SqL K.K H a (ns.map V.int)) :
    spF K 1 fn [.ref a] H (fun v _ => v = .bl true) fun _ _ _ => False := by
  obtain ⟨cs, e⟩ := h ns hl
  refine ⟨[], H, [.frl (ns.map D.int)], [], ⟨rfl, fun i d e => by simp at e, rfl, fun i c a e => by simp at e, List.nodup_nil, Same.refl _, fun a ha => by simp at ha, fun _ _ h _ => h, fun a ha => by simp at ha, fun _ _ h => .inl h, Same.refl _, List.prefix_refl _⟩, .cons (.frl hs (ints_back ns)) .nil, rfl, ?_⟩
  rw [e]
  intro ρ F H' v x r rv
  cases rv
  rfl
end VL

/-! VLE: enumerate of a tuple -/
namespace VL
open PySem L2 PyProof.Rows
set_option maxHeartbeats 1000000 in
theorem enum_new1 {v : Value} {o : Obj} {Hh : Heap → Prop} (B : Begins v o Hh) :
    Meets (Builtin.«enumerate.__new__» ⟨[.type "enumerate", v], []⟩) (fun _ R s => Hh s.heap ∧
      R (.ok (.ret (.ref (s.heap.push o).objs.size))) { s with heap := (s.heap.push o).push { cls := .type "enumerate", data := .fields #[.none, .bool false, .ref s.heap.objs.size, rawInt 0, .none, .none] } }) :=
  .of_wp fun prog w A R s hs => by
    obtain ⟨hp, gn, dr, tk, os⟩ := s
    obtain ⟨hH, hR⟩ := hs
    have sub := sub_enumerate
    have step : ∀ {A1 : Around} {E1 : Value → Shared → Prop} {Q1 : Value → Shared → Prop}, Q1 (.ref hp.objs.size) ⟨hp.push o, gn, dr, tk, os⟩ → wpAny (model prog w) A1 (pyIter v) Q1 E1 ⟨hp, gn, dr, tk, os⟩ := by
      intro A1 E1 Q1 h1
      exact B.iter prog w _ _ ⟨hp, gn, dr, tk, os⟩ _ hH h1
    wp_walk using step
    refine wpAny_stack_any fun stk => wpAny_pure ?_
    split
    · rename_i cl _ _ _ _ _
      cases (cl == Value.type "enumerate")
      all_goals
        wp_walk using step
        exact ⟨_, rfl, hR⟩
    · wp_walk using step
      exact ⟨_, rfl, hR⟩
section
variable {prog : Program} {w : World} {A : Around} {E : Value → Shared → Prop} {s : Shared}
theorem enum_tup {t : Addr} {items : Array Value} {Q : Value → Shared → Prop} (ht : s.heap.IsTuple t items)
    (h : ∀ h', IsEnum h' (s.heap.objs.size + 1) s.heap.objs.size 0 .none → h'.IsTupleIter s.heap.objs.size t 0 →
      (∀ b o, s.heap.get? b = some o → h'.get? b = some o) → Q (.ref (s.heap.objs.size + 1)) { s with heap := h' }) :
    wpAny (model prog w) A (call (.type "enumerate") [.ref t]) Q E s := by
  refine callType_new F.called_enumerate (by decide) (F.typeCall_enumerate_1 _) (F.newCall_enumerate_1 _) (fun obj => F.args_object_init_2 obj _) F.entry_enumerate_new (enum_new1 (begins_tuple t items)) ⟨ht, ?_⟩
  generalize hO : ({ cls := .type "tuple_iterator", data := .fields #[.ref t, .int 0 0] } : Obj) = O
  have sz : (s.heap.push O).objs.size = s.heap.objs.size + 1 := Heap.size_push ..
  show _ ∧ _
  rw [sz]
  have he : IsEnum ((s.heap.push O).push { cls := .type "enumerate", data := .fields #[.none, .bool false, .ref s.heap.objs.size, rawInt 0, .none, .none] }) (s.heap.objs.size + 1) s.heap.objs.size 0 .none := by
    have q := Heap.get?_push_size (s.heap.push O) (o := { cls := .type "enumerate", data := .fields #[.none, .bool false, .ref s.heap.objs.size, rawInt 0, .none, .none] }) rfl
    rw [sz] at q
    exact q
  have hi : ((s.heap.push O).push { cls := .type "enumerate", data := .fields #[.none, .bool false, .ref s.heap.objs.size, rawInt 0, .none, .none] }).get? s.heap.objs.size = some O :=
    Heap.get?_push_of_some _ (Heap.get?_push_size _ (by rw [← hO]; rfl))
  refine ⟨⟨_, he, rfl⟩, h _ he ⟨O, hi, by rw [← hO], by rw [← hO]; rfl⟩ fun b ob y => Heap.get?_push_of_some _ (Heap.get?_push_of_some _ y)⟩
end
/-- each item of the tuple at a in a new pair -/
def IteT (K : PySem.W.Frag) (a : Addr) : It where
  go := fun i H => ∃ (xs : List V) (x : V), SqT K H a xs ∧ xs[i]? = some x
  yld := fun i H v H' => ∃ T x, v = .ref T ∧ H T = none ∧ H' = upd H T (.tup [.int (i : Nat), x]) ∧ ∀ xs, SqT K H a xs → xs[i]? = some x
  stop := fun i H => ∃ xs : List V, SqT K H a xs ∧ xs.length = i
theorem tupIter_ne {h : Heap} {it a : Addr} {i : Nat} {items : Array Value} (h1 : h.IsTupleIter it a i) (h2 : h.IsTuple a items) : a ≠ it := by
  rintro rfl
  obtain ⟨o, e, c, _⟩ := h1
  obtain ⟨o2, e2, c2, _⟩ := h2
  rw [e] at e2
  cases e2
  rw [c] at c2
  exact absurd c2 (by decide)
theorem turn_enumT {P : Program} {w : World} {K : PySem.W.Frag} {elts : List Expr} {kk : Nat} {tpos : Pos} (a e it : Addr) :
    Turn P w K (.Tuple elts kk tpos) (IteT K a) [e, it] e (fun i h => (∃ old, IsEnum h e it ((i : Nat) : Int) old) ∧ h.IsTupleIter it a i ∧ e ≠ it) where
  mem := by simp
  obj := by
    rintro i h ⟨⟨old, he⟩, ⟨o, ho, hc, hd⟩, _⟩ b hb
    rcases List.mem_cons.mp hb with rfl | hb
    · exact ⟨_, he, fun v q => nomatch q⟩
    · rw [List.mem_singleton.mp hb]
      exact ⟨o, ho, fun v q => by rw [hd] at q; cases q⟩
  keep := by
    rintro i h h' ⟨⟨old, he⟩, hi, ne⟩ k
    exact ⟨⟨old, k e (by simp) _ he⟩, hi.at fun o q => k it (by simp) o q, ne⟩
  item := by
    intro X hP hw hK hc i pins s σ H E I hf st hg
    subst hP hw hK
    obtain ⟨⟨old, he⟩, hit, ne⟩ := st
    obtain ⟨xs, x, hq, hx⟩ := hg
    obtain ⟨its, rv, pt, hz⟩ := I.tuple hq
    have pt : s.heap.IsTuple a its.toArray := pt
    obtain ⟨u, hu, ru⟩ := rv.get hx
    have hi : i < its.toArray.size := by
      rw [List.size_toArray]
      exact (List.getElem?_eq_some_iff.mp hu).1
    have lte : e < s.heap.objs.size := Heap.lt_size he
    have lti : it < s.heap.objs.size := by
      obtain ⟨_, q, _⟩ := hit
      exact Heap.lt_size q
    have nea : e ≠ a := by
      rintro rfl
      obtain ⟨o2, e2, c2, _⟩ := pt
      rw [he] at e2
      cases e2
      exact absurd (show Value.type "enumerate" = Value.type "tuple" from c2) (by decide)
    have Dr := Draws.tuple (prog := X.prog) (w := X.w) (A := X.A.in1) (I.ok.hd hc) it a (tupIter_ne hit pt) its.toArray
    refine wpAny_pyNext_enum_itemD Dr he ⟨hit, pt⟩ hi ne (by simp [ne, nea]) ?_
    intro y h' tk hy hOut hSt hT hsz hk
    have ey : y = u := by
      rw [List.getElem?_toArray, hu] at hy
      exact (Option.some.inj hy).symm
    subst ey
    refine ⟨_, rfl, wpAny_letOwnedTupleGo_enum (s := { s with heap := h', toks := tk + 1 }) hOut ?_⟩
    intro h2 he2 sb
    have at2 : h2.get? s.heap.objs.size = some { cls := .type "tuple", data := .seq #[.int i tk, y] } := (sb.2 _ (Nat.ne_of_gt lte)).trans hT
    have new : ObjOk X.prog X.w (upd H s.heap.objs.size (.tup [.int (i : Nat), x])) h2 s.heap.objs.size (.tup [.int (i : Nat), x]) := by
      refine ⟨by show 2 ≤ sizeLine; decide, [.int i tk, y], .cons ⟨_, rfl⟩ (.cons ru .nil), ?_⟩
      exact ⟨_, at2, rfl, _, rfl⟩
    have I2 : Inv X pins σ (upd H s.heap.objs.size (.tup [.int (i : Nat), x])) { s with heap := h2, toks := tk + 1 } := by
      refine I.turnedNew (ch := [e, it]) ?_ hf (Nat.le_refl _) new
      intro b ob hb q
      have n1 : b ≠ e := fun z => hb (by simp [z])
      have n2 : b ≠ it := fun z => hb (by simp [z])
      exact (sb.2 b n1).trans (hk b ob n1 n2 q)
    refine ⟨.ref s.heap.objs.size, _, I2, rfl, ⟨_, x, rfl, I.hok.fresh (Nat.le_refl _), rfl, ?_⟩, ⟨⟨y, ?_⟩, hSt.1.at fun o q => (sb.2 it (Ne.symm ne)).trans q, ne⟩, ?_⟩
    · intro ys hys
      rw [I.tuple_inj hys hq]
      exact hx
    · rw [show ((i + 1 : Nat) : Int) = (i : Int) + 1 by omega]
      exact he2
    · intro b hb
      have lb : b < s.heap.objs.size := by
        rcases List.mem_cons.mp hb with rfl | hb
        · exact lte
        · rw [List.mem_singleton.mp hb]; exact lti
      rw [upd_ne (Nat.ne_of_lt lb)]
      exact (hf b hb).1
  done := by
    intro X hP hw hK hc i pins s σ H E I hf st hg
    subst hP hw hK
    obtain ⟨⟨old, he⟩, hit, ne⟩ := st
    obtain ⟨xs, hq, hx⟩ := hg
    obtain ⟨its, rv, pt, hz⟩ := I.tuple hq
    have pt : s.heap.IsTuple a its.toArray := pt
    obtain ⟨f0, f1, f2, f3, f4, f5⟩ := hf it (by simp)
    have Dr := Draws.tuple (prog := X.prog) (w := X.w) (A := X.A.in1) (I.ok.hd hc) it a (tupIter_ne hit pt) its.toArray
    have ei : its.toArray.size = i := by rw [List.size_toArray, ← rv.length, hx]
    refine wpAny_pyNext_enum_endD Dr he ⟨by rw [ei]; exact hit, pt⟩ ?_
    intro h' eb
    exact ⟨rfl, I.turned (t' := s.toks) (fun b o hb q => eb b o hb q) f0 f1 f3 f4 f5⟩
  self := by
    rintro A i s Q E ⟨⟨_, he⟩, _⟩ h
    exact wpAny_pyIter_enum he h
def iEnumT (K : PySem.W.Frag) (ta : TA) : TI := fun σ H R => ta σ H fun vs H1 => ∃ a xs, vs = [.ref a] ∧ SqT K H1 a xs ∧ R (IteT K a) H1
theorem pi_enumT {X : Cx} {e : Expr} {ta : TA} {p pos tpos : Pos} {elts : List Expr} {kk : Nat} (hg : Gl X "enumerate") (hm : X.mg "enumerate" = none) (ha : PA X [e] ta) (hs : starEach [e] X.env = [(false, eval e X.env)] := by rfl) :
    PI X (.Tuple elts kk tpos) (.Call (.Name "enumerate" p) [e] [] pos) (iEnumT X.K ta) := by
  constructor
  intro pins s σ H R I h
  refine Call_ (ld_blt I hg hm boot_enumerate (PyProof.Rows.callWith_type1 (thn (ha.run pos pins s σ H _ I h) ?_) hs rfl))
  rintro us s1 ⟨vs, H1, I1, r1, a, xs, rfl, hq, q⟩
  cases r1 with
  | cons r rr =>
    cases rr
    cases r
    obtain ⟨its, rv, pt, hz⟩ := I1.tuple hq
    refine enum_tup (show s1.heap.IsTuple a its.toArray from pt) ?_
    intro h' he hit hk
    refine wpAny_pyIter_enum he ?_
    have I2 : Inv X pins σ H1 { s1 with heap := h' } := I1.kept (t' := s1.toks) hk
    refine ⟨s1.heap.objs.size + 1, [s1.heap.objs.size + 1, s1.heap.objs.size], _, _, H1, rfl, I2, turn_enumT a (s1.heap.objs.size + 1) s1.heap.objs.size, ⟨⟨.none, he⟩, hit, Nat.succ_ne_self _⟩, ?_, q⟩
    intro b hb
    have le : s1.heap.objs.size ≤ b := by
      rcases List.mem_cons.mp hb with rfl | hb
      · exact Nat.le_add_right _ _
      · rw [List.mem_singleton.mp hb]; exact Nat.le_refl _
    exact I1.fpOk le (I1.hok.fresh le)
section
variable {X : Cx} {G : Gx} {W : WX} {ρ : List Addr} {F : Hp} {e : Expr} {pos : Pos}
theorem wk_enumT {a : Addr} {ds : List D} {vs : List V} (hs : SqT G.K.K F a vs) (rv : RVs G.K ρ F ds vs) : Wk G ρ F (IteT G.K.K a) (enumD ds) keepAll := by
  intro ρ1 F1 st1 σ1 H1 i x r _
  have hs1 : SqT G.K.K H1 a vs := sqT_same r.fz (sqT_same x.fz hs)
  constructor
  · intro d e
    unfold enumD at e
    rw [List.getElem?_mapIdx] at e
    cases q : ds[i]? with
    | none => rw [q] at e; cases e
    | some d0 =>
      rw [q] at e
      cases e
      obtain ⟨v, e1, e2⟩ := (rv.ext x).get q
      refine ⟨⟨vs, v, hs1, e1⟩, ?_⟩
      rintro y H' ⟨T, u, rfl, e4, rfl, e6⟩
      have e6 := e6 vs hs1
      rw [e1] at e6
      cases e6
      obtain ⟨x2, r2⟩ := r.fresh (o := .tup [.int (i : Nat), v]) e4
      exact ⟨ρ1, _, x2, rfl, same_upd' e4, r2, .tup (SqT.of upd_same) (.cons (.int _) (.cons (e2.ext x2) .nil))⟩
  · intro e
    unfold enumD at e
    rw [List.length_mapIdx] at e
    exact ⟨vs, hs1, by rw [← rv.length, e]⟩
def iEnT (g : Ax) : Ix := fun st => (g st).bind fun xs c1 => match xs with
  | [.tup ds] => .ok (enumD ds, keepAll) c1
  | _ => .no
theorem di_enumT {g : Ax} {p pos tpos : Pos} {elts : List Expr} {kk : Nat} (hK : X.K = G.K.K) (hg : Gl X "enumerate") (hm : X.mg "enumerate" = none) (ha : PA X [e] (tAs G W g)) (hs : starEach [e] X.env = [(false, eval e X.env)] := by rfl) :
    PI X (.Tuple elts kk tpos) (.Call (.Name "enumerate" p) [e] [] pos) (tI G W (iEnT g)) := by
  refine (pi_enumT hg hm ha hs).impV ?_
  rintro σ H R ⟨ρ, F, st, r, p⟩
  refine tI_of (R := RVs) r p (fun ρ1 F1 H1 xs c1 v x1 r1 rv1 q hn => ?_) (fun xs c1 => ?_)
  · rw [hK]
    split at hn
    · cases rv1 with
      | cons h1 h2 =>
        cases h2
        cases h1 with
        | tup h1 h2 => exact ⟨_, _, rfl, sqT_same r1.fz h1, q _ rfl _ (wk_enumT h1 h2)⟩
    · exact absurd rfl hn
  · split <;> first | exact .inl ⟨_, rfl⟩ | exact .inr rfl
end
end VL

/-! VLB: repr, isinstance, new objects, keywords -/
namespace VL
open PySem L2 PyProof.Rows
/-! ### repr of data -/
def rReprD (K : PySem.W.Frag) : List V → Hp → VK → Prop := fun xs H Q => ∃ (x : V) (d : PyData), xs = [x] ∧ Dp K H x d ∧ SeqAt.shaped d = true ∧ d.showable = true ∧ d.shown.length ≤ sizeLine ∧ Q (.str d.shown) H
theorem call_reprD {X : Cx} (hg : X.A.guards = some []) (hu : X.A.units + 66 < cLine) : CallR X (.builtin "repr") (rReprD X.K) := by
  intro pins s σ H xs us Q I r h
  obtain ⟨x, d, rfl, dp, sh, sw, sz, q⟩ := h
  obtain ⟨u, rfl, rx⟩ := vals1 r
  cases d with
  | none =>
    cases dp
    cases rx
    exact PySem.P.repr_of_none ⟨.str _, H, I.tok _, ⟨_, rfl⟩, q⟩
  | bool b =>
    cases dp
    cases rx
    refine PySem.P.repr_of_bool ⟨.str _, H, I.tok _, ⟨_, rfl⟩, ?_⟩
    simp only [PyData.shown] at q
    exact q
  | int i =>
    cases dp
    obtain ⟨t, rfl⟩ := rx
    simp only [PyData.showable, decide_eq_true_eq] at sw
    refine PySem.P.repr_of_int sw ⟨.str _, H, I.tok _, ⟨_, rfl⟩, ?_⟩
    simp only [PyData.shown] at q
    exact q
  | str z =>
    cases dp
    obtain ⟨t, rfl⟩ := rx
    simp only [PyData.shown] at q sz
    exact PySem.P.repr_of_str ⟨.str _, H, I.tok _, ⟨_, rfl⟩, q⟩ sz
  | dict kvs => cases dp
  | list ds =>
    have hd := SeqAt.depth_of_shaped sh
    have hnd := PyData.hasDict_of_canLay _ (SeqAt.canLay_of_shaped sh)
    obtain ⟨as, rd⟩ := Dp.reads I _ _ _ dp rx
    cases dp
    obtain rfl : u = Value.ref _ := rx
    refine repr_of_reads' rd sw (PyData.noDict_hsm hnd) hg (by omega) (fun _ _ e => e) ?_ sz
    intro h' t tk hk
    exact ⟨.str _, H, I.kept hk, ⟨_, rfl⟩, q⟩
  | tuple ds =>
    have hd := SeqAt.depth_of_shaped sh
    have hnd := PyData.hasDict_of_canLay _ (SeqAt.canLay_of_shaped sh)
    obtain ⟨as, rd⟩ := Dp.reads I _ _ _ dp rx
    cases dp
    obtain rfl : u = Value.ref _ := rx
    refine repr_of_reads' rd sw (PyData.noDict_hsm hnd) hg (by omega) (fun _ _ e => e) ?_ sz
    intro h' t tk hk
    exact ⟨.str _, H, I.kept hk, ⟨_, rfl⟩, q⟩
/-- may be shown -/
def showOk (d : D) : Bool := plain d && SeqAt.shaped (py d) && (py d).showable && decide ((py d).shown.length ≤ 16777216)
def hRepr : FB := fun cs ds => match ds with
  | [x] => if showOk (norm cs x) then .ok (.str (py (norm cs x)).shown) cs else .no
  | _ => .no
section
variable {X : Cx} {G : Gx} {W : WX} {e a : Expr} {es : List Expr} {g : Ax} {pos p : Pos} {fa : Ex}
theorem vn_repr : VN G W (rReprD G.K.K) hRepr := by
  intro ρ F st σ H ds vs Q r rv p
  unfold hRepr at p
  split at p
  · rename_i x
    cases rv with
    | cons h1 h2 =>
      cases h2
      by_cases c : showOk (norm st.cs x) = true
      · rw [if_pos c] at p
        unfold showOk at c
        simp only [Bool.and_eq_true, decide_eq_true_eq] at c
        exact ⟨_, _, rfl, dp_norm r h1 c.1.1.1, c.1.1.2, c.1.2, line_of c.2, p.here r (.str _)⟩
      · rw [if_neg c] at p
        exact p.elim
  · exact p.elim
theorem de_repr (hK : X.K = G.K.K) (hgd : X.A.guards = some []) (hu : X.A.units + 66 < cLine) (hg : Gl X "repr") (hm : X.mg "repr" = none) (ha : PA X (e :: es) (tAs G W g)) (he : starEach (e :: es) X.env = (false, eval e X.env) :: starEach es X.env := by rfl) (hpl : (backTo pos (starEach es X.env)).any (·.1) = false := by rfl) : PE X (.Call (.Name "repr" p) (e :: es) [] pos) (tE G W (eB hRepr g)) :=
  de_callB (call_reprD hgd hu) (by rw [hK]; exact vn_repr) hg hm boot_repr ha (he := he) (hpl := hpl)
/-! ### isinstance with a built-in class -/
def tyD (cs : List Cell) : D → Option String
  | .non => some "NoneType"
  | .bl _ => some "bool"
  | .int _ => some "int"
  | .str _ => some "str"
  | .tup _ => some "tuple"
  | .obj _ _ _ => none
  | d => (lstOf cs d).map fun _ => "list"
theorem tyX_of {ρ : List Addr} {F : Hp} {st : S} {σ : L2.St} {H : Hp} {x : D} {v : V} {n : String} (r : Rel G ρ F st σ H) (h : RV G.K ρ F x v) (e : tyD st.cs x = some n) : TyX G.K.K H v (.type n) := by
  have lists : ∀ {y : D}, RV G.K ρ F y v → (lstOf st.cs y).map (fun _ => "list") = some n → TyX G.K.K H v (.type n) := by
    intro y hy e
    cases q : lstOf st.cs y with
    | none => rw [q] at e; cases e
    | some ds =>
      rw [q] at e
      cases e
      obtain ⟨b, vs, rfl, s2, _⟩ := lst_read r hy q
      rcases s2 with (s2 | ⟨o, s2⟩) | ⟨o, its, k, l1, l2, _⟩
      · exact .base (.lst s2)
      · exact .base (.frz s2)
      · exact .kList l1 l2
  cases h with
  | non => cases e; exact .base .non
  | bl b => cases e; exact .base (.bl b)
  | int i => cases e; exact .base (.int i)
  | str z => cases e; exact .base (.str z)
  | tup h1 h2 =>
    cases e
    rcases sqT_same r.fz h1 with (s2 | ⟨o, s2⟩) | ⟨o, its, k, l1, l2, _⟩
    · exact .base (.tup s2)
    · exact .fTuple s2
    · exact .kTuple l1 l2
  | lst h1 h2 => exact lists (.lst h1 h2) e
  | frl h1 h2 => exact lists (.frl h1 h2) e
  | loc h1 => exact lists (.loc h1) e
  | obj => cases e
def isSub (a b : String) : Option Bool :=
  if ["NoneType", "bool", "int", "str", "tuple", "list"].contains a && ["bool", "int", "str", "tuple", "list"].contains b then some (a == b || a == "bool" && b == "int") else none
theorem isSub_of {a b : String} {k : Bool} (h : isSub a b = some k) : kitB a b = some k := by
  unfold isSub at h
  split at h
  · rename_i c
    rw [Bool.and_eq_true] at c
    have h1 := List.contains_iff_mem.mp c.1
    have h2 := List.contains_iff_mem.mp c.2
    cases h
    simp only [List.mem_cons, List.not_mem_nil, or_false] at h1 h2
    rcases h1 with rfl | rfl | rfl | rfl | rfl | rfl <;> rcases h2 with rfl | rfl | rfl | rfl | rfl <;> decide +kernel
  · cases h
def gIsi (T : String) : F1 := fun cs x => match tyD cs x with
  | some n => (match isSub n T with
    | some k => .ok (.bl k) cs
    | none => .no)
  | none => .no
theorem de_isi {T : String} {x : Str} {p1 p2 : Pos} (hK : X.K = G.K.K) (hg : Gl X "isinstance") (hm : X.mg "isinstance" = none) (hgT : Gl X x) (hmT : X.mg x = none) (hbT : bootBuiltins x = some (.type T)) (ha : PE X a (tE G W fa)) (hn : x ≠ "__name__" := by decide) (hd : (x == ("__debug__" : Str)) = false := by decide)
    (hs : starEach [a, .Name x p2] X.env = (false, eval a X.env) :: starEach [.Name x p2] X.env := by rfl) (hpl : (backTo pos (starEach [.Name x p2] X.env)).any (·.1) = false := by rfl) (hs2 : starEach [.Name x p2] X.env = (false, eval (.Name x p2) X.env) :: starEach [] X.env := by rfl) :
    PE X (.Call (.Name "isinstance" p1) [a, .Name x p2] [] pos) (tE G W (eUn (gIsi T) fa)) := by
  have hT : PE X (.Name x p2) (tC (.ty T)) := pe_bltn hgT hmT hbT rfl hn hd
  refine (pe_callB call_isi hg hm boot_isinstance (pa_cons ha (pa_cons hT pa_nil hs2) hs) (he := hs) (hpl := hpl)).impV ?_
  rintro σ H Q ⟨ρ, F, st, r, p⟩
  refine seqX r p fun ρ1 F1 H1 x c1 v x1 r1 rv1 p1 => ?_
  unfold gIsi at p1
  cases q : tyD c1 x with
  | none => rw [q] at p1; exact p1.elim
  | some n =>
    rw [q] at p1
    simp only at p1
    cases q2 : isSub n T with
    | none => rw [q2] at p1; exact p1.elim
    | some k =>
      rw [q2] at p1
      rw [hK]
      exact ⟨v, .ty T, .type n, .type T, k, rfl, .ty T, tyX_of (st := ⟨st.env, c1⟩) r1 rv1 q, kit_ty (isSub_of q2), p1.here (st := ⟨st.env, c1⟩) r1 (.bl _)⟩
/-! ### self.f = e, self an own instance -/
def putD (f : Str) (d : D) : List Str → List D → List Str × List D
  | k :: ks, x :: xs => if k = f then (k :: ks, d :: xs) else ((putD f d ks xs).1.cons k, (putD f d ks xs).2.cons x)
  | _, _ => ([f], [d])
theorem putD_rel {K : Kt} {ρ : List Addr} {F : Hp} {f : Str} {d : D} {v : V} (h : RV K ρ F d v) : ∀ {ks : List Str} {ds : List D} {vs : List V}, RVs K ρ F ds vs → ks.length = vs.length →
    ∃ ws, RVs K ρ F (putD f d ks ds).2 ws ∧ (putD f d ks ds).1.length = ws.length ∧ putF f v (ks.zip vs) = (putD f d ks ds).1.zip ws
  | [], _, _, .nil, _ => ⟨[v], .cons h .nil, rfl, rfl⟩
  | [], _, _, .cons _ _, e => by simp at e
  | _ :: _, _, _, .nil, e => by simp at e
  | k :: ks, _, _, @RVs.cons _ _ _ x xs y ys hx r, e => by
    have e' : ks.length = ys.length := by simpa using e
    unfold putD
    rw [List.zip_cons_cons]
    unfold putF
    by_cases c : k = f
    · rw [if_pos c, if_pos c]
      exact ⟨v :: ys, .cons h r, by simp [e'], by rw [List.zip_cons_cons]⟩
    · rw [if_neg c, if_neg c]
      obtain ⟨ws, h1, h2, h3⟩ := putD_rel h r e'
      exact ⟨y :: ws, .cons hx h1, by simpa using h2, by rw [h3]; rfl⟩
def setFld (cn : Nat) (f : Str) (o v : D) (st : S) : SOut := match o with
  | .loc n => (match st.cs[n]? with
    | some (.ins C ks ds) => if C = cn ∧ ks.length < 1000 then .nx ⟨st.env, st.cs.set n (.ins C (putD f v ks ds).1 (putD f v ks ds).2)⟩ else .no
    | _ => .no)
  | _ => .no
def sSetFld (cn : Nat) (f : Str) (fv fo : Ex) : Sx := fun st => thenS (fv st) st.env fun v st1 => thenS (fo st1) st1.env fun o st2 => setFld cn f o v st2
theorem ds_fld {cn : Nat} {f : Str} {o value : Expr} {fv fo : Ex} {pos' : Pos} (hK : X.K = G.K.K) (hf : FldOk G.K cn f) (ho : PE X o (tE G W fo)) (hv : PE X value (tE G W fv)) (hs : swapsWith value (some (.Attribute o f pos')) pos.line X.env = pure false := by rfl) :
    PS X (.Assign [.Attribute o f pos'] value pos) (tS G W (sSetFld cn f fv fo)) := by
  refine (ps_fld ho hv hs).impV ?_
  rintro E σ H ⟨ρ, F, st, r, p⟩
  refine seqS (f := fv) r p fun ρ1 F1 H1 x c1 v x1 r1 rv1 p1 => ?_
  refine seqS (st := ⟨st.env, c1⟩) (f := fo) r1 p1 fun ρ2 F2 H2 y c2 w x2 r2 rv2 p2 => ?_
  rw [hK]
  unfold setFld at p2
  cases rv2 with
  | @loc n a0 h1 =>
    simp only at p2
    cases q : c2[n]? with
    | none => rw [q] at p2; exact p2.elim
    | some c0 =>
      rw [q] at p2
      cases c0 with
      | lst _ => exact p2.elim
      | dk _ _ => exact p2.elim
      | ins C ks ds =>
        simp only at p2
        by_cases c : C = cn ∧ ks.length < 1000
        · rw [if_pos c] at p2
          obtain ⟨rfl, c2'⟩ := c
          obtain ⟨dx, vs, h2, h3, h4⟩ := r2.cell n _ _ q h1
          refine ⟨a0, _, dx, _, rfl, h2, hf.cl, hf.no, ?_, ?_⟩
          · rw [List.length_zip, ← h3, Nat.min_self]
            exact c2'
          · obtain ⟨ws, g1, g2, g3⟩ := putD_rel (f := f) (rv1.ext x2) h4 h3
            refine p2 ρ2 F2 σ _ Ext.refl (r2.cellSet (st := ⟨st.env, c2⟩) (c := .ins C (putD f x ks ds).1 (putD f x ks ds).2) h1 ⟨dx, ws, ?_, g2, g1⟩)
            rw [upd_same, g3]
        · rw [if_neg c] at p2
          exact p2.elim
  | _ => exact p2.elim
end
/-! ### a new object -/
/-- the last own cell, an instance, becomes a frozen object -/
theorem Rel.freezeO {G : Gx} {ρ0 ρ : List Addr} {F0 F : Hp} {env0 env : List (Option D)} {cs0 cs : List Cell} {C : Nat} {ks : List Str} {ds : List D} {σ0 σ : L2.St} {H0 H : Hp} {a : Addr} {n : Nat} (r0 : Rel G ρ0 F0 ⟨env0, cs0⟩ σ0 H0) (hn : n = cs0.length) (x : Ext ρ0 F0 ρ F)
    (r : Rel G ρ F ⟨env, cs ++ [.ins C ks ds]⟩ σ H) (hl : cs.length = n) (ha : ρ[n]? = some a) (b1 : belows n ds = true) (b2 : cs.all (belowC n) = true) :
    ∃ F', Ext ρ0 F0 ρ0 F' ∧ Rel G ρ0 F' ⟨env0, cs⟩ σ0 H ∧ RV G.K ρ0 F' (.obj C ks ds) (.ref a) := by
  have hρ : ρ.take n = ρ0 := by
    obtain ⟨t, rfl⟩ := x.pre
    rw [hn, ← show ρ0.length = cs0.length from r0.cl, List.take_left]
  obtain ⟨dx, vs, h1, h1l, h2⟩ := r.cell n (.ins C ks ds) a (by
    show (cs ++ [Cell.ins C ks ds])[n]? = _
    rw [List.getElem?_append_right (by omega), hl, Nat.sub_self]; rfl) ha
  have hm : a ∈ ρ := List.mem_of_getElem? ha
  have hFa : F a = none := r.sep a hm
  have s1 : Same F (upd F a (.ins (G.K.κ C) dx (ks.zip vs))) := same_upd' hFa
  have hna : a ∉ ρ0 := fun z => by
    rw [← hρ] at z
    obtain ⟨i, hi, e⟩ := List.getElem_of_mem z
    rw [List.length_take] at hi
    have hin : i < n := by omega
    rw [List.getElem_take] at e
    obtain ⟨h3, h3'⟩ := List.getElem?_eq_some_iff.mp ha
    have := (List.getElem_inj r.nd).mp (e.trans h3'.symm)
    omega
  have hA : a ∉ G.A0 := fun z => hna (r0.a0.subset z)
  have hH0 : G.H0 a = none := (r.own a hm).resolve_left hA
  refine ⟨upd F a (.ins (G.K.κ C) dx (ks.zip vs)), ⟨List.prefix_refl _, x.fz.trans s1⟩, ⟨r0.len, fun i d e => ?_, ?_, fun i c b e1 e2 => ?_, r0.nd, fun b o e => ?_, fun b hb => ?_, r.fr, fun b hb => r.own b (x.pre.subset hb), fun b o e => ?_, r.old.trans s1, r0.a0⟩, ?_⟩
  · obtain ⟨v, e1, e2⟩ := r0.env i d e
    exact ⟨v, e1, e2.ext ⟨List.prefix_refl _, x.fz.trans s1⟩⟩
  · show ρ0.length = cs.length
    rw [hl, hn]; exact r0.cl
  · have e1 : cs[i]? = some c := e1
    have hi : i < cs.length := (List.getElem?_eq_some_iff.mp e1).1
    have q := r.cell i c b (by show (cs ++ [Cell.ins C ks ds])[i]? = _; rw [List.getElem?_append_left hi]; exact e1) (x.at e2)
    have q := q.cut (n := n) s1 (List.all_eq_true.mp b2 c (List.mem_of_getElem? e1))
    rw [hρ] at q
    exact q
  · by_cases hb : b = a
    · subst hb
      rw [upd_same] at e
      cases e
      exact h1
    · rw [upd_ne hb] at e
      exact r.fz b o e
  · rw [upd_ne (show b ≠ a from fun z => hna (by rw [← z]; exact hb))]
    exact r.sep b (x.pre.subset hb)
  · by_cases hb : b = a
    · subst hb
      exact .inr hH0
    · rw [upd_ne hb] at e
      exact r.new b o e
  · have q := h2.cut (n := n) s1 b1
    rw [hρ] at q
    exact .obj upd_same h1l q
def lastIns (cs : List Cell) : Option (List Cell × Nat × List Str × List D) := match cs.reverse with
  | .ins C ks ds :: r => some (r.reverse, C, ks, ds)
  | _ => none
theorem lastIns_eq {cs c1 : List Cell} {C : Nat} {ks : List Str} {ds : List D} (h : lastIns cs = some (c1, C, ks, ds)) : cs = c1 ++ [.ins C ks ds] := by
  unfold lastIns at h
  split at h
  · rename_i e
    cases h
    rw [← List.reverse_reverse cs, e, List.reverse_cons]
  · cases h
/-- C(..): __init__ is fn; the new instance is its first argument -/
def makeD (cn : Nat) (fn : Fn) (ds : List D) (cs : List Cell) : Out D := match fn (.loc cs.length :: ds) (cs ++ [.ins cn [] []]) with
  | .ok .non c2 => (match lastIns c2 with
    | some (c3, C, ks, es) => if C = cn ∧ c3.length = cs.length ∧ belows cs.length es = true ∧ c3.all (belowC cs.length) = true then .ok (.obj C ks es) c3 else .no
    | none => .no)
  | .ok _ _ => .no
  | .ex e c2 => if belows cs.length e.ds = true ∧ (c2.take cs.length).all (belowC cs.length) = true ∧ c2.length = cs.length + 1 then .ex e (c2.take cs.length) else .no
  | .no => .no

section
variable {X : Cx} {G : Gx} {W : WX} {ρ : List Addr} {F : Hp} {st : S} {σ : L2.St} {H : Hp} {e : Expr} {es : List Expr} {g : Ax} {pos p : Pos}
/-- W does not hang on the slots -/
def Flat (W : WX) : Prop := ∀ c d σ σ' H, W c d σ H → W c d σ' H
theorem flat0 : Flat W0 := fun _ _ _ _ _ h => h
theorem flatE {E : XK} : Flat (fun cls d _ H' => E cls d H') := fun _ _ _ _ _ h => h
theorem passF (tk : Takes X W) (hW : Flat W) : Passes (L2.CX X.prog X.w) X (fun c d H => W c d [] H) := fun pins σ H s e s' I c => passes_call tk (fun cls d σ H h => hW _ _ _ _ _ h) pins σ H s e s' I c
theorem make_of {cn n : Nat} {fn : Fn} {ds : List D} {vs : List V} {Q : VK} {x dx : Addr} (hW : Flat W) (r : Rel G ρ F st σ H) (rv : RVs G.K ρ F ds vs) (hn : ds.length + 1 = n) (nx : H x = none) (ndx : H dx = none) (ne : dx ≠ x) (p : Post RV G W ρ F st.env σ Q (makeD cn fn ds st.cs)) :
    spF G.K n fn (.ref x :: vs) (upd (upd H dx (.own x)) x (.ins (G.K.κ cn) dx [])) (fun v H2 => v = .non ∧ Q (.ref x) H2) (fun c d H => W c d [] H) := by
  obtain ⟨x1, r1⟩ := r.fresh (o := .own x) ndx
  have nx1 : (upd H dx (.own x)) x = none := by rw [upd_ne ne.symm]; exact nx
  have y : Ext ρ (upd F dx (.own x)) (ρ ++ [x]) (upd F dx (.own x)) := ⟨List.prefix_append _ _, Same.refl _⟩
  obtain ⟨x2, r2⟩ := r1.cellNew (p := x) (o := .ins (G.K.κ cn) dx []) (c := .ins cn [] []) nx1 ⟨dx, [], upd_same, rfl, .nil⟩
  have hat : (ρ ++ [x])[st.cs.length]? = some x := by rw [← r.cl, List.getElem?_append_right (Nat.le_refl _), Nat.sub_self]; rfl
  refine ⟨ρ ++ [x], upd F dx (.own x), .loc st.cs.length :: ds, st.cs ++ [.ins cn [] []], r2.entry, .cons (.loc hat) ((rv.ext x1).ext x2), by simpa using hn, ?_⟩
  unfold makeD at p
  have x12 := x1.trans x2
  cases q : fn (.loc st.cs.length :: ds) (st.cs ++ [.ins cn [] []]) with
  | no => rw [q] at p; exact p.elim
  | ex e' c2 =>
    rw [q] at p
    simp only at p
    by_cases c : belows st.cs.length e'.ds = true ∧ (c2.take st.cs.length).all (belowC st.cs.length) = true ∧ c2.length = st.cs.length + 1
    · rw [if_pos c] at p
      intro ρ3 F3 H3 cls d x3 r3 xa
      have r4 := r2.after x3 r3
      have eρ : ρ3.take st.cs.length = ρ := by
        obtain ⟨t, ht⟩ := x3.pre
        have ht : (ρ ++ [x]) ++ t = ρ3 := ht
        rw [← ht, List.append_assoc, ← show ρ.length = st.cs.length from r.cl, List.take_left]
      obtain ⟨y1, y2, y3, y4, y5, y6, y7⟩ := xa
      have r5 := r4.entryP (n := st.cs.length) c.2.1
      have e4 : Ext ρ F ρ3 F3 := x12.trans x3
      refine hW _ _ _ _ _ (p ρ F3 H3 cls d ⟨List.prefix_refl _, e4.fz⟩ ?_ ⟨y1, y2, y3, y4, y5, y6, ?_⟩)
      · refine ⟨r.len, fun i d' e1 => ?_, ?_, fun i c0 b e1 e2 => ?_, r.nd, r4.fz, fun b hb => r4.sep b (e4.pre.subset hb), r4.fr, fun b hb => r.own b hb, r4.new, r4.old, r.a0⟩
        · obtain ⟨v, f1, f2⟩ := r.env i d' e1
          exact ⟨v, f1, f2.ext ⟨List.prefix_refl _, e4.fz⟩⟩
        · show ρ.length = (c2.take st.cs.length).length
          rw [List.length_take, c.2.2, r.cl]
          omega
        · have q1 := r5.cell i c0 b e1 (by rw [eρ]; exact e2)
          rw [eρ] at q1
          exact q1
      · have q1 := y7.cut (n := st.cs.length) (Same.refl F3) c.1
        rw [eρ] at q1
        exact q1
    · rw [if_neg c] at p
      exact p.elim
  | ok d c2 =>
    rw [q] at p
    cases d with
    | non =>
      simp only at p
      intro ρ3 F3 H3 v x3 r3 rv3
      cases rv3
      refine ⟨rfl, ?_⟩
      cases q2 : lastIns c2 with
      | none => rw [q2] at p; exact p.elim
      | some z =>
        obtain ⟨c3, C, ks, es⟩ := z
        rw [q2] at p
        simp only at p
        by_cases c : C = cn ∧ c3.length = st.cs.length ∧ belows st.cs.length es = true ∧ c3.all (belowC st.cs.length) = true
        · rw [if_pos c] at p
          obtain ⟨rfl, h1, h2, h3⟩ := c
          have e := lastIns_eq q2
          subst e
          have r4 := r2.after x3 r3
          obtain ⟨F', x5, r5, rv5⟩ := Rel.freezeO (a := x) (env0 := st.env) (cs0 := st.cs) r rfl (x12.trans x3) r4 h1 (x3.at hat) h2 h3
          exact p ρ F' H3 _ x5 r5 rv5
        · rw [if_neg c] at p
          exact p.elim
    | _ => exact p.elim
def eMake (cn : Nat) (fn : Fn) (g : Ax) : Ex := fun st => (g st).bind fun ds c1 => makeD cn fn ds c1
theorem de_make {cn k : Nat} {fn : Fn} {f : Addr} {fd : FuncData} {ps : List Str} {x : Str} (hW : Flat W) (tk : Takes X W) (M : Mk X.K (G.K.κ cn) f) (hF : FnOk X.prog X.w X.K X.mg X.base (L2.CX X.prog X.w) k f fd ps (spF G.K ps.length fn)) (hr : Room (k + 1) X.A) (hg : Gl X x) (hm : X.mg x = some (.ref (G.K.κ cn))) (hb : Binds X.K fd ps [])
    (ha : PA X (e :: es) (tAs G W g)) (hlen : ∀ st ds c1, g st = .ok ds c1 → ds.length + 1 = ps.length) (hdb : (x == ("__debug__" : Str)) = false := by decide) (he : starEach (e :: es) X.env = (false, eval e X.env) :: starEach es X.env := by rfl) (hpl : (backTo pos (starEach es X.env)).any (·.1) = false := by rfl) :
    PE X (.Call (.Name x p) (e :: es) [] pos) (tE G W (eMake cn fn g)) := by
  refine (pe_make M hF hr hg hm hb .nil (passF tk hW) ha hdb he hpl).impV ?_
  rintro σ H Q ⟨ρ, F, st, r, p⟩
  unfold eMake at p
  refine ⟨ρ, F, st, r, ?_⟩
  cases q : g st with
  | no => rw [q] at p; exact p.elim
  | ex e' cs => rw [q] at p; exact p
  | ok ds c1 =>
    rw [q] at p
    have p : Post RV G W ρ F st.env σ Q (makeD cn fn ds c1) := p
    intro ρ1 F1 H1 vs x1 r1 rv1 x dx nx ndx ne
    rw [List.append_nil]
    exact make_of (st := ⟨st.env, c1⟩) hW r1 rv1 (hlen _ _ _ q) nx ndx ne (Post.ext x1 p)
/-! ### keywords alone -/
theorem _root_.L2.PK.impV {X : Cx} {kws : List Keyword} {t t' : TA} (h : PK X kws t) (m : ∀ σ H Q, t' σ H Q → t σ H Q) : PK X kws t' := ⟨fun pos pins s σ H Q I hw => h.run pos pins s σ H Q I (m _ _ _ hw)⟩
theorem dk_nil : PK X [] (tAs G W aNil) := pk_nil.impV fun σ H Q ⟨ρ, F, st, r, p⟩ => p.here r .nil
theorem dk_cons {nm : Option Str} {kpos : Pos} {kws : List Keyword} {f : Ex} (h : PE X e (tE G W f)) (hr : PK X kws (tAs G W g)) : PK X (⟨nm, e, kpos⟩ :: kws) (tAs G W (aCons f g)) :=
  (pk_cons h hr).impV fun σ H Q ⟨ρ, F, st, r, p⟩ => seqX r p fun ρ1 F1 H1 x c1 v x1 r1 rv1 p1 => seqX (st := ⟨st.env, c1⟩) r1 p1 fun ρ2 F2 H2 xs c2 vs x2 r2 rv2 p2 => p2.here (st := ⟨st.env, c2⟩) r2 (.cons (rv1.ext x2) rv2)
theorem pe_kw0 {CX : CXT} {E : XK} {k : Nat} {f : Addr} {fd : FuncData} {ps ks : List Str} {sp : Sp} {x : Str} {kws : List Keyword} {tk : TA} {gg : List Value → List Value → List Value} {gV : List V → List V → List V}
    (hF : FnOk X.prog X.w X.K X.mg X.base CX k f fd ps sp) (hr : Room k X.A) (hg : Gl X x) (hm : X.mg x = some (.ref f)) (hk : PySem.W.keepIn X.K (.ref f) = true) (hb : KBn X.K fd ps 0 ks gg gV) (hx : Passes CX X E) (hkw : PK X kws tk)
    (hall : (backToKw pos (keywordEach kws X.env)).all (·.1.isSome) = true := by rfl) (hks : (backToKw pos (keywordEach kws X.env)).filterMap (·.1) = ks := by rfl) (hdb : (x == ("__debug__" : Str)) = false := by decide)
    (hpl : ((backTo pos (starEach [] X.env)).any (·.1) || (backToKw pos (keywordEach kws X.env)).any (·.1.isNone)) = false := by rfl) :
    PE X (.Call (.Name x p) [] kws pos) (fun σ H Q => tk σ H fun zs H2 => zs.length = ks.length ∧ sp (gV [] zs) H2 Q E) := by
  constructor
  intro pins s σ H Q I h
  refine wpAny_Call_Name_kw (ld_glob I hg hm ?_ hdb)
  refine PySem.W.callWith_KW0 (h₀ := X.base) I.ok.mod.kin hk hall (thn (hkw.run pos pins s σ H _ I h) ?_) hpl
  rintro ws s2 ⟨zs, H2, I2, rz, hl, q2⟩
  refine ⟨I2.kIn, ?_⟩
  rw [hks]
  have hlw : ws.length = ks.length := by rw [← rz.length]; exact hl
  have rr := hb.rel (vs := []) (us := []) .nil rz
  refine wpAny_call (codeAny_mono (hF.run X.A X.stack s2 H2 ⟨[], ks.zip ws⟩ (gg [] ws) (gV [] zs) Q E hr I2.env0 (hb.to s2 [] ws I2.kIn rfl hlw) rr q2) ?_)
  intro res s' hq
  match res, hq with
  | .error er, hq => exact hx pins σ H2 s2 er s' I2 hq
  | .ok (.ret u), hq => exact I2.after hq
  | .ok .next, hq => exact hq.elim
  | .ok .brk, hq => exact hq.elim
  | .ok .cont, hq => exact hq.elim
/-- the parameters' order: the i-th parameter is the ix[i]-th keyword -/
def permD (ix : List Nat) (ds : List D) : List D := ix.map fun i => ds.getD i .non
def permV (ix : List Nat) (vs : List V) : List V := ix.map fun i => vs.getD i .non
theorem perm_rel {K : Kt} {ρ : List Addr} {F : Hp} {ds : List D} {vs : List V} (h : RVs K ρ F ds vs) : ∀ ix : List Nat, (∀ i ∈ ix, i < ds.length) → RVs K ρ F (permD ix ds) (permV ix vs)
  | [], _ => .nil
  | i :: ix, hi => by
    refine .cons ?_ (perm_rel h ix fun j hj => hi j (List.mem_cons_of_mem _ hj))
    have h1 : i < ds.length := hi i List.mem_cons_self
    obtain ⟨v, e1, e2⟩ := h.get (List.getElem?_eq_getElem h1)
    show RV K ρ F (ds.getD i D.non) (vs.getD i V.non)
    rw [List.getD_eq_getElem?_getD, List.getD_eq_getElem?_getD, List.getElem?_eq_getElem h1, e1]
    exact e2
def eCallK (n : Nat) (fn : Fn) (ix : List Nat) (g : Ax) : Ex := fun st => (g st).bind fun ds c1 => callV n fn (permD ix ds) c1
theorem de_callK {n k : Nat} {fn : Fn} {f : Addr} {fd : FuncData} {ps ks : List Str} {x : Str} {kws : List Keyword} {ix : List Nat} {gg : List Value → List Value → List Value} (hW : Flat W) (tk : Takes X W)
    (hF : FnOk X.prog X.w X.K X.mg X.base (L2.CX X.prog X.w) k f fd ps (spF G.K ps.length fn)) (hr : Room k X.A) (hg : Gl X x) (hm : X.mg x = some (.ref f)) (hk : PySem.W.keepIn X.K (.ref f) = true) (hb : KBn X.K fd ps 0 ks gg (fun _ zs => permV ix zs)) (hkw : PK X kws (tAs G W g))
    (hlen : ∀ st ds c1, g st = .ok ds c1 → ds.length = ks.length) (hix : ∀ i ∈ ix, i < ks.length) (hixl : ix.length = ps.length)
    (hall : (backToKw pos (keywordEach kws X.env)).all (·.1.isSome) = true := by rfl) (hks : (backToKw pos (keywordEach kws X.env)).filterMap (·.1) = ks := by rfl) (hdb : (x == ("__debug__" : Str)) = false := by decide)
    (hpl : ((backTo pos (starEach [] X.env)).any (·.1) || (backToKw pos (keywordEach kws X.env)).any (·.1.isNone)) = false := by rfl) :
    PE X (.Call (.Name x p) [] kws pos) (tE G W (eCallK n fn ix g)) := by
  refine (pe_kw0 hF hr hg hm hk hb (passF tk hW) hkw hall hks hdb hpl).impV ?_
  rintro σ H Q ⟨ρ, F, st, r, p⟩
  unfold eCallK at p
  refine ⟨ρ, F, st, r, ?_⟩
  cases q : g st with
  | no => rw [q] at p; exact p.elim
  | ex e' cs => rw [q] at p; exact p
  | ok ds c1 =>
    rw [q] at p
    have p : Post RV G W ρ F st.env σ Q (callV n fn (permD ix ds) c1) := p
    intro ρ1 F1 H1 vs x1 r1 rv1
    have hl := hlen _ _ _ q
    refine ⟨by rw [← rv1.length]; exact hl, ?_⟩
    have hp := perm_rel rv1 ix fun i hi => by rw [hl]; exact hix i hi
    obtain ⟨a, b, c, d, e1, e2, e3, e4⟩ := callV_of (st := ⟨st.env, c1⟩) (m := ps.length) (n := n) (fn := fn) r1 hp (by unfold permD; rw [List.length_map]; exact hixl) (Post.ext x1 p)
    refine ⟨a, b, c, d, e1, e2, e3, ?_⟩
    cases q2 : fn c d with
    | no => rw [q2] at e4; exact e4
    | ok d2 c2 => rw [q2] at e4; exact e4
    | ex e' c2 =>
      rw [q2] at e4
      intro ρ5 F5 H5 cls dx y5 r5 xa5
      exact hW _ _ _ _ _ (e4 ρ5 F5 H5 cls dx y5 r5 xa5)
end
end VL

/-! VLD: defs by name, for printed proofs -/
namespace VL
open PySem L2 PyProof.Rows
/-- as many values -/
def ALen (n : Nat) (g : Ax) : Prop := ∀ st ds c1, g st = .ok ds c1 → ds.length = n
theorem alen_nil : ALen 0 aNil := by
  intro st ds c1 h
  cases h
  rfl
theorem alen_cons {n : Nat} {f : Ex} {g : Ax} (h : ALen n g) : ALen (n + 1) (aCons f g) := by
  intro st ds c1 e
  unfold aCons at e
  cases q : f st with
  | no => rw [q] at e; cases e
  | ex _ _ => rw [q] at e; cases e
  | ok x c2 =>
    rw [q] at e
    have e : (g ⟨st.env, c2⟩).bind (fun xs c2 => Out.ok (x :: xs) c2) = .ok ds c1 := e
    cases q2 : g ⟨st.env, c2⟩ with
    | no => rw [q2] at e; cases e
    | ex _ _ => rw [q2] at e; cases e
    | ok xs c3 =>
      rw [q2] at e
      cases e
      rw [List.length_cons, h _ _ _ q2]
/-- a def (or method) of the text as it stands behind the top; dV its defaults -/
structure FunA (K : PySem.W.Frag) (x qual : Str) (st : Stmt) (dV : Value) (f : Addr) (fd : FuncData) : Prop where
  ex : ∃ (oc : Value) (od : Option Addr) (kV doc pm : Value) (an : Option Addr) (cdv ct : Value) (osl : Array (Option Value)),
    fd = PySem.W.fnOf x qual (defArgs st) (defBody st) (defScope st) dV kV doc pm an cdv ct ∧ K.lookup f = some ⟨oc, od, .func fd, osl⟩ ∧ PySem.W.codeIn K cdv qual = true
section
variable {P : Program} {w : World} {K : Kt} {mg : Str → Option Value} {base : Heap} {x qual : Str} {st : Stmt} {f : Addr} {fd : FuncData} {ps N : List Str} {k : Nat} {fn fn' : Fn} {body : Sx}
theorem funA_mk {oc : Value} {od an : Option Addr} {osl : Array (Option Value)} {dV kV doc pm cdv ct : Value} (l : K.K.lookup f = some ⟨oc, od, .func (PySem.W.fnOf x qual (defArgs st) (defBody st) (defScope st) dV kV doc pm an cdv ct), osl⟩) (c : PySem.W.codeIn K.K cdv qual = true) :
    FunA K.K x qual st dV f (PySem.W.fnOf x qual (defArgs st) (defBody st) (defScope st) dV kV doc pm an cdv ct) := ⟨⟨oc, od, kV, doc, pm, an, cdv, ct, osl, rfl, l, c⟩⟩
/-- every parameter is given, by place -/
theorem FunA.binds (Fu : FunA K.K x qual st .none f fd) (h : ∀ (kV doc pm : Value) (an : Option Addr) (cdv ct : Value) (us : List Value), us.length = ps.length → bindArgs (PySem.W.fnOf x qual (defArgs st) (defBody st) (defScope st) .none kV doc pm an cdv ct) ⟨us, []⟩ = pure (ps.zip us)) : Binds K.K fd ps [] := by
  obtain ⟨oc, od, kV, doc, pm, an, cdv, ct, osl, rfl, lk, hcd⟩ := Fu.ex
  exact .all (h kV doc pm an cdv ct)
/-- .. by keywords -/
theorem FunA.kbn {ks : List Str} {ix : List Nat} (Fu : FunA K.K x qual st .none f fd) (h : ∀ (kV doc pm : Value) (an : Option Addr) (cdv ct : Value) (ws : List Value), ws.length = ks.length → bindArgs (PySem.W.fnOf x qual (defArgs st) (defBody st) (defScope st) .none kV doc pm an cdv ct) ⟨[], ks.zip ws⟩ = pure (ps.zip (ix.map fun i => ws.getD i .none)))
    (hix : ∀ i ∈ ix, i < ks.length) : KBn K.K fd ps 0 ks (fun _ ws => ix.map fun i => ws.getD i .none) (fun _ zs => permV ix zs) := by
  obtain ⟨oc, od, kV, doc, pm, an, cdv, ct, osl, rfl, lk, hcd⟩ := Fu.ex
  refine ⟨fun s us ws _ hu hw => ?_, fun {vs us zs ws} _ rz => ?_⟩
  · obtain rfl : us = [] := List.length_eq_zero_iff.mp hu
    exact .of_eq (h kV doc pm an cdv ct ws hw)
  · have : ∀ l : List Nat, Vals (permV l zs) (l.map fun i => ws.getD i .none) := by
      intro l
      induction l with
      | nil => exact .nil
      | cons i l ih =>
        refine .cons ?_ ih
        show RelV (zs.getD i .non) (ws.getD i .none)
        rw [List.getD_eq_getElem?_getD, List.getD_eq_getElem?_getD]
        cases q : zs[i]? with
        | none => rw [rz.none_of q]; rfl
        | some z =>
          obtain ⟨u, e1, e2⟩ := rz.get q
          rw [e1]
          exact e2
    exact this ix
/-- a def with defaults, every parameter given by place -/
theorem FunA.bindsD {T : Addr} {o : Obj} {its : List Value} {m : Nat} (Fu : FunA K.K x qual st (.ref T) f fd) (lT : K.K.lookup T = some o) (oT : o.data = .seq its.toArray m)
    (h : ∀ (kV doc pm : Value) (an : Option Addr) (cdv ct : Value) (us : List Value), us.length = ps.length → ∃ k, bindArgs (PySem.W.fnOf x qual (defArgs st) (defBody st) (defScope st) (.ref T) kV doc pm an cdv ct) ⟨us, []⟩ = seqItems? (.ref T) >>= k ∧ k (some its.toArray) = pure (ps.zip us)) : Binds K.K fd ps [] := by
  obtain ⟨oc, od, kV, doc, pm, an, cdv, ct, osl, rfl, lk, hcd⟩ := Fu.ex
  intro s us KX hl
  rw [List.append_nil] at hl ⊢
  obtain ⟨k, e1, e2⟩ := h kV doc pm an cdv ct us hl
  refine BindsTo.of_looks fun M => ?_
  rw [e1]
  exact looks_items KX lT oT (PySem.W.Looks.of_pure e2)
theorem okA {dV : Value} (Fu : FunA K.K x qual st dV f fd) (S : FnScope N ps (defScope st))
    (hbody : ∀ (G : Gx), G.K = K → ∀ (cdv : Value) (A : Around) (outer : List Env) (s : Shared) (H : Hp) (E : XK), Room k (A.deeper (envOfC qual (defScope st) s.heap.objs.size f cdv)) →
      PSs (cxOf (L2.CX P w) P w K.K mg base N qual (defScope st) f cdv A outer s H E) (defBody st) (tS G (fun cls d _ H' => E cls d H') body)) :
    FnOk P w K.K mg base (L2.CX P w) (k + 1) f fd ps (spF K ps.length (runF N.length body)) := by
  obtain ⟨oc, od, kV, doc, pm, an, cdv, ct, osl, rfl, lk, hcd⟩ := Fu.ex
  refine fn_of lk hcd S (fun vs H Q E h => spF_len h) ?_
  intro A outer s H vs Q E hr h
  obtain ⟨G, e, t⟩ := body_of h
  exact ⟨_, hbody G e cdv A outer s H E hr, t⟩
/-- the def x of the text is there: its statement, its binding -/
structure Txt1 (K : Kt) (mg : Str → Option Value) (x : Str) (st : Stmt) (ps : List Str) : Prop where
  ex : ∃ (f : Addr) (fd : FuncData), mg x = some (.ref f) ∧ PySem.W.keepIn K.K (.ref f) = true ∧ FunA K.K x x st .none f fd ∧ Binds K.K fd ps []
/-- the def x keeps fn's promise at level k -/
structure Def (P : Program) (w : World) (K : Kt) (mg : Str → Option Value) (base : Heap) (x : Str) (st : Stmt) (k : Nat) (ps : List Str) (fn : Fn) : Prop where
  ex : ∃ (f : Addr) (fd : FuncData), mg x = some (.ref f) ∧ PySem.W.keepIn K.K (.ref f) = true ∧ FunA K.K x x st .none f fd ∧ Binds K.K fd ps [] ∧ FnOk P w K.K mg base (L2.CX P w) k f fd ps (spF K ps.length fn)
theorem mkDef (t : Txt1 K mg x st ps) (S : FnScope N ps (defScope st))
    (hbody : ∀ (f : Addr) (G : Gx), G.K = K → ∀ (cdv : Value) (A : Around) (outer : List Env) (s : Shared) (H : Hp) (E : XK), Room k (A.deeper (envOfC x (defScope st) s.heap.objs.size f cdv)) →
      PSs (cxOf (L2.CX P w) P w K.K mg base N x (defScope st) f cdv A outer s H E) (defBody st) (tS G (fun cls d _ H' => E cls d H') body)) :
    Def P w K mg base x st (k + 1) ps (runF N.length body) := by
  obtain ⟨f, fd, h1, h2, h3, h4⟩ := t.ex
  exact ⟨f, fd, h1, h2, h3, h4, okA h3 S fun G e cdv A outer s H E hr => hbody f G e cdv A outer s H E hr⟩
theorem Def.trim (d : Def P w K mg base x st k ps fn) : Def P w K mg base x st k ps (trimF fn) := by
  obtain ⟨f, fd, h1, h2, h3, h4, h5⟩ := d.ex
  exact ⟨f, fd, h1, h2, h3, h4, fnTrim h5⟩
theorem Def.ref (d : Def P w K mg base x st k ps fn) (h : ∀ ds cs, fn' ds cs ≠ .no → fn ds cs = fn' ds cs) : Def P w K mg base x st k ps fn' := by
  obtain ⟨f, fd, h1, h2, h3, h4, h5⟩ := d.ex
  exact ⟨f, fd, h1, h2, h3, h4, fnRef h5 h⟩
/-- a class of the text, made by its __init__ -/
structure TxtC (K : Kt) (mg : Str → Option Value) (x : Str) (cn : Nat) (st : Stmt) (ps : List Str) : Prop where
  ex : ∃ (f : Addr) (fd : FuncData), mg x = some (.ref (K.κ cn)) ∧ Mk K.K (K.κ cn) f ∧ (∃ dV, FunA K.K "__init__" (x ++ ".__init__") st dV f fd) ∧ Binds K.K fd ps []
structure DefC (P : Program) (w : World) (K : Kt) (mg : Str → Option Value) (base : Heap) (x : Str) (cn k : Nat) (ps : List Str) (fn : Fn) : Prop where
  ex : ∃ (f : Addr) (fd : FuncData), mg x = some (.ref (K.κ cn)) ∧ Mk K.K (K.κ cn) f ∧ Binds K.K fd ps [] ∧ FnOk P w K.K mg base (L2.CX P w) k f fd ps (spF K ps.length fn)
theorem mkDefC {cn : Nat} (t : TxtC K mg x cn st ps) (S : FnScope N ps (defScope st))
    (hbody : ∀ (f : Addr) (G : Gx), G.K = K → ∀ (cdv : Value) (A : Around) (outer : List Env) (s : Shared) (H : Hp) (E : XK), Room k (A.deeper (envOfC (x ++ ".__init__") (defScope st) s.heap.objs.size f cdv)) →
      PSs (cxOf (L2.CX P w) P w K.K mg base N (x ++ ".__init__") (defScope st) f cdv A outer s H E) (defBody st) (tS G (fun cls d _ H' => E cls d H') body)) :
    DefC P w K mg base x cn (k + 1) ps (runF N.length body) := by
  obtain ⟨f, fd, h1, h2, ⟨dV, h3⟩, h4⟩ := t.ex
  exact ⟨f, fd, h1, h2, h4, okA h3 S fun G e cdv A outer s H E hr => hbody f G e cdv A outer s H E hr⟩
theorem DefC.ref {cn : Nat} (d : DefC P w K mg base x cn k ps fn) (h : ∀ ds cs, fn' ds cs ≠ .no → fn ds cs = fn' ds cs) : DefC P w K mg base x cn k ps fn' := by
  obtain ⟨f, fd, h1, h2, h3, h5⟩ := d.ex
  exact ⟨f, fd, h1, h2, h3, fnRef h5 h⟩
end
section
variable {X : Cx} {G : Gx} {W : WX} {e : Expr} {es : List Expr} {g : Ax} {pos p : Pos} {x : Str} {st : Stmt} {k : Nat} {ps : List Str} {fn : Fn}
theorem de_callD (n : Nat) (d : Def X.prog X.w G.K X.mg X.base x st k ps fn) (hK : X.K = G.K.K) (tk : Takes X W) (hr : Room k X.A) (ha : PA X (e :: es) (tAs G W g)) (hl : ALen ps.length g) (hg : Gl X x := by rfl) (hdb : (x == ("__debug__" : Str)) = false := by decide) (he : starEach (e :: es) X.env = (false, eval e X.env) :: starEach es X.env := by rfl) (hpl : (backTo pos (starEach es X.env)).any (·.1) = false := by rfl) :
    PE X (.Call (.Name x p) (e :: es) [] pos) (tE G W (eCall n fn g)) := by
  obtain ⟨f, fd, h1, h2, _, h3, h5⟩ := d.ex
  rw [← hK] at h2 h3 h5
  exact de_call hK.symm tk h5 hr hg h1 h2 h3 ha hl hdb he hpl
theorem de_callDA (d : Def X.prog X.w G.K X.mg X.base x st k ps fn) (hK : X.K = G.K.K) (tk : Takes X W) (hr : Room k X.A) (ha : PA X (e :: es) (tAs G W g)) (hl : ALen ps.length g) (hg : Gl X x := by rfl) (hdb : (x == ("__debug__" : Str)) = false := by decide) (he : starEach (e :: es) X.env = (false, eval e X.env) :: starEach es X.env := by rfl) (hpl : (backTo pos (starEach es X.env)).any (·.1) = false := by rfl) :
    PE X (.Call (.Name x p) (e :: es) [] pos) (tE G W (eCallAll fn g)) := by
  obtain ⟨f, fd, h1, h2, _, h3, h5⟩ := d.ex
  rw [← hK] at h2 h3 h5
  exact de_callAll hK.symm tk h5 hr hg h1 h2 h3 ha hl hdb he hpl
theorem de_callKD {kws : List Keyword} {ks : List Str} (n : Nat) (ix : List Nat) (d : Def X.prog X.w G.K X.mg X.base x st k ps fn) (hK : X.K = G.K.K) (hW : Flat W) (tk : Takes X W) (hr : Room k X.A) (hkw : PK X kws (tAs G W g)) (hl : ALen ks.length g) (hix : ∀ i ∈ ix, i < ks.length) (hixl : ix.length = ps.length)
    (hbind : ∀ (kV doc pm : Value) (an : Option Addr) (cdv ct : Value) (ws : List Value), ws.length = ks.length → bindArgs (PySem.W.fnOf x x (defArgs st) (defBody st) (defScope st) .none kV doc pm an cdv ct) ⟨[], ks.zip ws⟩ = pure (ps.zip (ix.map fun i => ws.getD i .none)))
    (hg : Gl X x := by rfl) (hall : (backToKw pos (keywordEach kws X.env)).all (·.1.isSome) = true := by rfl) (hks : (backToKw pos (keywordEach kws X.env)).filterMap (·.1) = ks := by rfl) (hdb : (x == ("__debug__" : Str)) = false := by decide)
    (hpl : ((backTo pos (starEach [] X.env)).any (·.1) || (backToKw pos (keywordEach kws X.env)).any (·.1.isNone)) = false := by rfl) :
    PE X (.Call (.Name x p) [] kws pos) (tE G W (eCallK n fn ix g)) := by
  obtain ⟨f, fd, h1, h2, h4, h3, h5⟩ := d.ex
  have kb := h4.kbn hbind hix
  rw [← hK] at h2 h3 h5 kb
  exact de_callK hW tk h5 hr hg h1 h2 kb hkw hl hix hixl hall hks hdb hpl
theorem de_makeD {cn : Nat} (d : DefC X.prog X.w G.K X.mg X.base x cn k ps fn) (hK : X.K = G.K.K) (hW : Flat W) (tk : Takes X W) (hr : Room (k + 1) X.A) (ha : PA X (e :: es) (tAs G W g)) {m : Nat} (hl : ALen m g) (hm : m + 1 = ps.length) (hg : Gl X x := by rfl) (hdb : (x == ("__debug__" : Str)) = false := by decide) (he : starEach (e :: es) X.env = (false, eval e X.env) :: starEach es X.env := by rfl) (hpl : (backTo pos (starEach es X.env)).any (·.1) = false := by rfl) :
    PE X (.Call (.Name x p) (e :: es) [] pos) (tE G W (eMake cn fn g)) := by
  obtain ⟨f, fd, h1, h2, h3, h5⟩ := d.ex
  rw [← hK] at h2 h3 h5
  exact de_make hW tk h2 h5 hr hg h1 h3 ha (fun st ds c1 e => by rw [hl st ds c1 e, hm]) hdb he hpl
end
/-! ### y = [..] on one line, y a plain local -/
section
variable {X : Cx} {G : Gx} {W : WX} {tg iter elt : Expr} {ifs : List Expr} {scope : Scope} {own : List (Str × Nat)} {pos spos py : Pos} {src : Ix} {sl : List Nat} {g : Gt} {t : Tx} {f : Ex} {i : Nat} {y : Str}
theorem ds_setLc (hc : X.calm = true) (hN : X.N.Nodup) (hi : PI X tg iter (tI G W src)) (ok : BlkOk X.N X.env.scope scope own) (hsl : ∀ i ∈ sl, i ∈ own.map (·.2))
    (hg : ∀ (s : Shared) (H : Hp) (C : Addr) (cl : List (Str × Addr)) (fp : List Addr), PG (X.blk s H scope (compEnvC scope cl C X.env) fp) tg (tG G sl g)) (ht : ∀ (s : Shared) (H : Hp) (C : Addr) (cl : List (Str × Addr)) (fp : List Addr), PTs (X.blk s H scope (compEnvC scope cl C X.env) fp) ifs (tTs G W0 t))
    (he : ∀ (s : Shared) (H : Hp) (C : Addr) (cl : List (Str × Addr)) (fp : List Addr), PE (X.blk s H scope (compEnvC scope cl C X.env) fp) elt (tE G W0 f))
    (hsw : swapsWith (.ListComp elt [⟨tg, iter, ifs, 0⟩] scope pos) (some (.Name y py)) spos.line X.env = pure true) (hy : X.N[i]? = some y := by rfl) (hyl : X.env.scope.names.lookup y = some .local := by rfl) (hs : ∀ x, foldedSetIterable iter X.env x = pure x := by intro _; rfl) :
    PS X (.Assign [.Name y py] (.ListComp elt [⟨tg, iter, ifs, 0⟩] scope pos) spos) (tS G W (sAsg (eLc src g t f (own.map (·.2))) (gNm i))) := by
  refine (ps_setLc (i := i) hc hN hy hyl hsw hi ok hg ht he hs).impV ?_
  rintro E σ H ⟨ρ, F, st, r, p⟩
  refine eLc_of hsl σ H _ (seqS (f := eLc src g t f (own.map (·.2))) r p fun ρ1 F1 H1 x c1 v x1 r1 rv1 p1 => ?_)
  exact p1 ρ1 F1 _ H1 Ext.refl (r1.slot rv1)
theorem ds_setLcLoc (hc : X.calm = true) (hN : X.N.Nodup) (hi : PI X tg iter (tI G W src)) (ok : BlkOk X.N X.env.scope scope own) (hsl : ∀ i ∈ sl, i ∈ own.map (·.2))
    (hg : ∀ (s : Shared) (H : Hp) (C : Addr) (cl : List (Str × Addr)) (fp : List Addr), PG (X.blk s H scope (compEnvC scope cl C X.env) fp) tg (tG G sl g)) (ht : ∀ (s : Shared) (H : Hp) (C : Addr) (cl : List (Str × Addr)) (fp : List Addr), PTs (X.blk s H scope (compEnvC scope cl C X.env) fp) ifs (tTs G W0 t))
    (he : ∀ (s : Shared) (H : Hp) (C : Addr) (cl : List (Str × Addr)) (fp : List Addr), PE (X.blk s H scope (compEnvC scope cl C X.env) fp) elt (tE G W0 f))
    (hsw : swapsWith (.ListComp elt [⟨tg, iter, ifs, 0⟩] scope pos) (some (.Name y py)) spos.line X.env = pure true) (hy : X.N[i]? = some y := by rfl) (hyl : X.env.scope.names.lookup y = some .local := by rfl) (hs : ∀ x, foldedSetIterable iter X.env x = pure x := by intro _; rfl) :
    PS X (.Assign [.Name y py] (.ListComp elt [⟨tg, iter, ifs, 0⟩] scope pos) spos) (tS G W (sAsg (eLcLoc src g t f (own.map (·.2))) (gNm i))) := by
  refine (ps_setLc (i := i) hc hN hy hyl hsw hi ok hg ht he hs).impV ?_
  rintro E σ H ⟨ρ, F, st, r, p⟩
  refine eLcLoc_of hsl σ H _ (seqS (f := eLcLoc src g t f (own.map (·.2))) r p fun ρ1 F1 H1 x c1 v x1 r1 rv1 p1 => ?_)
  exact p1 ρ1 F1 _ H1 Ext.refl (r1.slot rv1)
end
/-! ### comparisons as tests -/
section
variable {X : Cx} {G : Gx} {W : WX} {a b : Expr} {fa fb : Ex} {pos : Pos}
def tCmp' (g : F2) (fa fb : Ex) : Tx := fun st => (eOp g fa fb st).bind fun x c1 => match x with
  | .bl k => .ok k c1
  | _ => .no
theorem dt_cmp {op : CmpOp} {r : R2} {g : F2} (ho : OpR X (compareOp op) r) (hv : V2 G W r g) (ha : PE X a (tE G W fa)) (hb : PE X b (tE G W fb)) (hm : behindInMarks op b = false) : PT X (.Compare a [op] [b] pos) (tTs G W (tCmp' g fa fb)) := by
  refine (pt_cmpR ho ha hb hm).impV ?_
  rintro σ H Q ⟨ρ, F, st, r, p⟩
  refine tOp_of hv σ H _ (seqX (R := RV) r p fun ρ1 F1 H1 x c1 v x1 r1 rv1 p1 => ?_)
  cases rv1 with
  | bl k => exact ⟨k, rfl, p1.here (st := ⟨st.env, c1⟩) r1 rfl⟩
  | _ => exact p1.elim
theorem dt_eq (hK : X.K = G.K.K) (hu : X.A.units + 64 < cLine) (ha : PE X a (tE G W fa)) (hb : PE X b (tE G W fb)) : PT X (.Compare a [.Eq] [b] pos) (tTs G W (tCmp' (gEqB false) fa fb)) := dt_cmp (op_eqD hu) (by rw [hK]; exact v2_eq) ha hb (nomark _)
theorem dt_ne (hK : X.K = G.K.K) (hu : X.A.units + 64 < cLine) (ha : PE X a (tE G W fa)) (hb : PE X b (tE G W fb)) : PT X (.Compare a [.NotEq] [b] pos) (tTs G W (tCmp' (gEqB true) fa fb)) := dt_cmp (op_neD hu) (by rw [hK]; exact v2_ne) ha hb (nomark _)
theorem dt_lt (ha : PE X a (tE G W fa)) (hb : PE X b (tE G W fb)) : PT X (.Compare a [.Lt] [b] pos) (tTs G W (tCmp' gLt fa fb)) := dt_cmp (op_lt.or op_lt_str) v2_ord ha hb (nomark _)
theorem dt_le (ha : PE X a (tE G W fa)) (hb : PE X b (tE G W fb)) : PT X (.Compare a [.LtE] [b] pos) (tTs G W (tCmp' gLe fa fb)) := dt_cmp (op_le.or op_le_str) v2_ord ha hb (nomark _)
theorem dt_gt (ha : PE X a (tE G W fa)) (hb : PE X b (tE G W fb)) : PT X (.Compare a [.Gt] [b] pos) (tTs G W (tCmp' gGt fa fb)) := dt_cmp (op_gt.or op_gt_str) v2_ord ha hb (nomark _)
theorem dt_ge (ha : PE X a (tE G W fa)) (hb : PE X b (tE G W fb)) : PT X (.Compare a [.GtE] [b] pos) (tTs G W (tCmp' gGe fa fb)) := dt_cmp (op_ge.or op_ge_str) v2_ord ha hb (nomark _)
theorem is_of {neg : Bool} {ρ : List Addr} {F : Hp} {st : S} {σ : L2.St} {H : Hp} {x y : D} {v w : V} {Q : VK} (r : Rel G ρ F st σ H) (h1 : RV G.K ρ F x v) (h2 : RV G.K ρ F y w) (p : Post RV G W ρ F st.env σ Q (gIs neg st.cs x y)) :
    (w = .non ∧ Q (.bl (if neg then !decide (v = .non) else decide (v = .non))) H) ∨ ∃ i j : Bool, v = .bl i ∧ w = .bl j ∧ Q (.bl (if neg then !decide (i = j) else decide (i = j))) H := by
  unfold gIs at p
  split at p
  · cases h2
    refine .inl ⟨rfl, ?_⟩
    rw [isNon_of h1]
    exact p.here r (.bl _)
  · cases h1; cases h2
    exact .inr ⟨_, _, rfl, rfl, p.here r (.bl _)⟩
  · exact p.elim
theorem dt_is (ha : PE X a (tE G W fa)) (hb : PE X b (tE G W fb)) : PT X (.Compare a [.Is] [b] pos) (tTs G W (tCmp' (gIs false) fa fb)) := dt_cmp (op_isN.or op_isBl) (fun ρ F st σ H x y v w Q r h1 h2 p => is_of r h1 h2 p) ha hb (nomark _)
theorem dt_isnot (ha : PE X a (tE G W fa)) (hb : PE X b (tE G W fb)) : PT X (.Compare a [.IsNot] [b] pos) (tTs G W (tCmp' (gIs true) fa fb)) := dt_cmp (op_notN.or op_notBl) (fun ρ F st σ H x y v w Q r h1 h2 p => is_of r h1 h2 p) ha hb (nomark _)
theorem dt_in (hK : X.K = G.K.K) (ha : PE X a (tE G W fa)) (hb : PE X b (tE G W fb)) (hm : behindInMarks .In b = false := by rfl) : PT X (.Compare a [.In] [b] pos) (tTs G W (tCmp' (gIn false) fa fb)) :=
  dt_cmp (op_in_sign.or op_in_seq) (by rw [hK]; exact fun ρ F st σ H x y v w Q r h1 h2 p => in_of r h1 h2 p) ha hb hm
theorem dt_notin (hK : X.K = G.K.K) (ha : PE X a (tE G W fa)) (hb : PE X b (tE G W fb)) (hm : behindInMarks .NotIn b = false := by rfl) : PT X (.Compare a [.NotIn] [b] pos) (tTs G W (tCmp' (gIn true) fa fb)) :=
  dt_cmp (op_notIn_sign.or op_notIn_seq) (by rw [hK]; exact fun ρ F st σ H x y v w Q r h1 h2 p => in_of r h1 h2 p) ha hb hm
end
end VL

/-! VLM: reckoning with the plain functions: comprehensions, loops -/
namespace VL
open PySem L2
theorem belows_append {n : Nat} : ∀ {xs ys : List D}, belows n (xs ++ ys) = (belows n xs && belows n ys)
  | [], ys => by simp [belows]
  | x :: xs, ys => by simp [belows, belows_append (xs := xs) (ys := ys), Bool.and_assoc]
theorem belows_all {n : Nat} : ∀ {xs : List D}, belows n xs = xs.all (below n)
  | [] => rfl
  | x :: xs => by simp [belows, belows_all (xs := xs)]
theorem belows_of {n : Nat} {xs : List D} (h : ∀ x ∈ xs, below n x = true) : belows n xs = true := by
  rw [belows_all, List.all_eq_true]
  exact h
theorem lastCell_snoc {cs : List Cell} {ds : List D} : lastCell (cs ++ [.lst ds]) = some (cs, ds) := by
  unfold lastCell
  rw [List.reverse_append]
  simp
/-- one answer an item: none, or what is put in -/
inductive Picks (R : D → Option D → Prop) : List D → List D → Prop
  | nil : Picks R [] []
  | skip {d : D} {ds ys : List D} : R d none → Picks R ds ys → Picks R (d :: ds) ys
  | take {d y : D} {ds ys : List D} : R d (some y) → Picks R ds ys → Picks R (d :: ds) (y :: ys)
/-- what one turn of a comprehension does -/
def LcTurn (I : List Cell → Prop) (R : D → Option D → Prop) (g : Gt) (t : Tx) (f : Ex) (env : List (Option D)) (d : D) : Prop :=
  ∀ (cs : List Cell) (acc : List D), I cs → ∃ env1, g d ⟨env, cs ++ [.lst acc]⟩ = some ⟨env1, cs ++ [.lst acc]⟩ ∧
    ∃ b cs2, t ⟨env1, cs ++ [.lst acc]⟩ = .ok b (cs2 ++ [.lst acc]) ∧ I cs2 ∧ (b = false → R d none) ∧
      (b = true → ∃ y cs3, f ⟨env1, cs2 ++ [.lst acc]⟩ = .ok y (cs3 ++ [.lst acc]) ∧ I cs3 ∧ R d (some y))
theorem lcL_of {I : List Cell → Prop} {R : D → Option D → Prop} {g : Gt} {t : Tx} {f : Ex} {env : List (Option D)} {n : Nat} (hI : ∀ cs, I cs → cs.length = n) : ∀ (ds : List D) (cs : List Cell) (acc : List D), I cs → acc.length + ds.length < 16777216 → (∀ d ∈ ds, LcTurn I R g t f env d) →
    ∃ ys cs', lcL g t f keepAll env n ds (cs ++ [.lst acc]) = some (cs' ++ [.lst (acc ++ ys)]) ∧ I cs' ∧ Picks R ds ys
  | [], cs, acc, hi, _, _ => ⟨[], cs, by simp [lcL, keepAll], hi, .nil⟩
  | d :: ds, cs, acc, hi, hl, ht => by
    obtain ⟨env1, e1, b, cs2, e2, i2, h0, h1⟩ := ht d List.mem_cons_self cs acc hi
    have hl' : acc.length + ds.length + 1 < 16777216 := by simpa [Nat.add_assoc] using hl
    have ht' : ∀ d ∈ ds, LcTurn I R g t f env d := fun d hd => ht d (List.mem_cons_of_mem _ hd)
    cases b with
    | false =>
      obtain ⟨ys, cs', e5, i5, p5⟩ := lcL_of hI ds cs2 acc i2 (by omega) ht'
      refine ⟨ys, cs', ?_, i5, .skip (h0 rfl) p5⟩
      unfold lcL
      simp only [keepAll, if_true, e1, e2]
      exact e5
    | true =>
      obtain ⟨y, cs3, e3, i3, r3⟩ := h1 rfl
      have hlen : (acc ++ [y]).length = acc.length + 1 := by simp
      obtain ⟨ys, cs', e5, i5, p5⟩ := lcL_of hI ds cs3 (acc ++ [y]) i3 (by rw [hlen]; omega) ht'
      refine ⟨y :: ys, cs', ?_, i5, .take r3 p5⟩
      unfold lcL
      have hn := hI cs3 i3
      have g1 : (cs3 ++ [Cell.lst acc])[n]? = some (.lst acc) := by
        rw [List.getElem?_append_right (by omega), hn, Nat.sub_self]; rfl
      have g2 : (cs3 ++ [Cell.lst acc]).set n (.lst (acc ++ [y])) = cs3 ++ [.lst (acc ++ [y])] := by
        rw [List.set_append_right n _ (by omega), hn, Nat.sub_self]; rfl
      simp only [keepAll, if_true, e1, e2, e3, g1, g2]
      rw [if_pos (by omega), e5]
      simp
/-- a comprehension, frozen -/
theorem eLc_eval {I : List Cell → Prop} {R : D → Option D → Prop} {src : Ix} {g : Gt} {t : Tx} {f : Ex} {vs : List Nat} {st : S} {ds : List D} {c1 : List Cell} (hs : src st = .ok (ds, keepAll) c1) (hi : I c1) (hI : ∀ cs, I cs → cs.length = c1.length) (hl : ds.length < 16777216)
    (hb : ∀ cs, I cs → cs.all (belowC c1.length) = true) (hR : ∀ d y, R d (some y) → below c1.length y = true) (ht : ∀ d ∈ ds, LcTurn I R g t f (wipeD st.env vs) d) :
    ∃ ys cs', eLc src g t f vs st = .ok (.lst ys) cs' ∧ I cs' ∧ Picks R ds ys := by
  obtain ⟨ys, cs', e, i', p⟩ := lcL_of (n := c1.length) hI ds c1 [] hi (by simpa using hl) ht
  refine ⟨ys, cs', ?_, i', p⟩
  unfold eLc
  rw [hs]
  have bl : belows c1.length ys = true := by
    refine belows_of ?_
    have : ∀ {ds ys : List D}, Picks R ds ys → ∀ y ∈ ys, below c1.length y = true := by
      intro ds ys p
      induction p with
      | nil => intro y hy; cases hy
      | skip _ _ ih => exact ih
      | take r _ ih =>
        intro y hy
        rcases List.mem_cons.mp hy with rfl | hy
        · exact hR _ _ r
        · exact ih y hy
    exact this p
  show (match lcL g t f keepAll (wipeD st.env vs) c1.length ds (c1 ++ [.lst []]) with
    | some c2 => _
    | none => _) = _
  rw [e]
  simp only [List.nil_append, lastCell_snoc]
  rw [if_pos ⟨hI cs' i', bl, hb cs' i'⟩]
/-- .. that changes no cell: filter and map -/
theorem eLc_pure {src : Ix} {g : Gt} {t : Tx} {f : Ex} {vs : List Nat} {st : S} {ds : List D} {c1 : List Cell} {q : D → Bool} {h : D → D} (hs : src st = .ok (ds, keepAll) c1) (hl : ds.length < 16777216) (hb : c1.all (belowC c1.length) = true)
    (hh : ∀ d ∈ ds, q d = true → below c1.length (h d) = true)
    (ht : ∀ d ∈ ds, ∀ acc, ∃ env1, g d ⟨wipeD st.env vs, c1 ++ [.lst acc]⟩ = some ⟨env1, c1 ++ [.lst acc]⟩ ∧ t ⟨env1, c1 ++ [.lst acc]⟩ = .ok (q d) (c1 ++ [.lst acc]) ∧ (q d = true → f ⟨env1, c1 ++ [.lst acc]⟩ = .ok (h d) (c1 ++ [.lst acc]))) :
    eLc src g t f vs st = .ok (.lst ((ds.filter q).map h)) c1 := by
  have main : ∀ (es : List D) (acc : List D), (∀ d ∈ es, d ∈ ds) → acc.length + es.length < 16777216 → lcL g t f keepAll (wipeD st.env vs) c1.length es (c1 ++ [.lst acc]) = some (c1 ++ [.lst (acc ++ (es.filter q).map h)]) := by
    intro es
    induction es with
    | nil => intro acc _ _; simp [lcL, keepAll]
    | cons d es ih =>
      intro acc hm hz
      have hz' : acc.length + es.length + 1 < 16777216 := by simpa [Nat.add_assoc] using hz
      obtain ⟨env1, e1, e2, e3⟩ := ht d (hm d List.mem_cons_self) acc
      unfold lcL
      cases c : q d with
      | false =>
        rw [c] at e2
        simp only [keepAll, if_true, e1, e2]
        rw [ih acc (fun x hx => hm x (List.mem_cons_of_mem _ hx)) (by omega), List.filter_cons_of_neg (by simp [c])]
      | true =>
        rw [c] at e2
        have g1 : (c1 ++ [Cell.lst acc])[c1.length]? = some (.lst acc) := by
          rw [List.getElem?_append_right (Nat.le_refl _), Nat.sub_self]; rfl
        have g2 : (c1 ++ [Cell.lst acc]).set c1.length (.lst (acc ++ [h d])) = c1 ++ [.lst (acc ++ [h d])] := by
          rw [List.set_append_right _ _ (Nat.le_refl _), Nat.sub_self]; rfl
        simp only [keepAll, if_true, e1, e2, e3 c, g1, g2]
        rw [if_pos (by omega), ih (acc ++ [h d]) (fun x hx => hm x (List.mem_cons_of_mem _ hx)) (by simp; omega), List.filter_cons_of_pos (by simp [c])]
        simp
  unfold eLc
  rw [hs]
  show (match lcL g t f keepAll (wipeD st.env vs) c1.length ds (c1 ++ [.lst []]) with
    | some c2 => _
    | none => _) = _
  rw [main ds [] (fun _ h => h) (by simpa using hl)]
  simp only [List.nil_append, lastCell_snoc]
  refine if_pos ⟨by first | trivial | rfl, belows_of fun x hx => ?_, hb⟩
  obtain ⟨d, hd, rfl⟩ := List.mem_map.mp hx
  obtain ⟨h1, h2⟩ := List.mem_filter.mp hd
  exact hh d h1 h2
/-- a for whose turns all go on -/
theorem forL_of {I : S → Prop} {g : Gt} {body : Sx} (ht : ∀ d st, I st → ∃ st1 st2, g d st = some st1 ∧ body st1 = .nx st2 ∧ I st2) : ∀ (ds : List D) (st : S), I st → ∃ st', forL g body keepAll ds st = .nx st' ∧ I st'
  | [], st, h => ⟨st, by simp [forL, keepAll], h⟩
  | d :: ds, st, h => by
    obtain ⟨st1, st2, e1, e2, h2⟩ := ht d st h
    obtain ⟨st3, e3, h3⟩ := forL_of ht ds st2 h2
    refine ⟨st3, ?_, h3⟩
    unfold forL
    simp only [keepAll, if_true, e1, e2]
    exact e3
theorem sSeq_of {f g : Sx} {st st1 : S} (h : f st = .nx st1) : sSeq f g st = g st1 := by
  unfold sSeq
  rw [h]
/-- no more than n different numbers below n -/
theorem pigeon : ∀ (n : Nat) (l : List Nat), l.Nodup → (∀ x ∈ l, x < n) → l.length ≤ n
  | 0, [], _, _ => Nat.le_refl _
  | 0, x :: l, _, h => absurd (h x List.mem_cons_self) (Nat.not_lt_zero _)
  | n + 1, l, nd, h => by
    by_cases c : n ∈ l
    · have h1 := pigeon n (l.erase n) (nd.erase n) (fun x hx => by
        have := (List.Nodup.mem_erase_iff nd).mp hx
        have := h x this.2
        omega)
      rw [List.length_erase_of_mem c] at h1
      omega
    · have h1 := pigeon n l nd (fun x hx => by
        have := h x hx
        have : x ≠ n := fun z => c (z ▸ hx)
        omega)
      omega
end VL

namespace K67
open PySem L2 PyProof.Rows VL
def topS (i : Nat) : Stmt := PySem.Challenge.pw_plainroads_k67_who_may_step.main.body.getD i (.Pass ⟨0, 0, 0, 0⟩)
abbrev s_is_integer : Stmt := topS 6
abbrev n_is_integer : List Str := ["value"]
theorem sc_is_integer : FnScope n_is_integer ["value"] (defScope s_is_integer) := ⟨rfl, rfl, rfl, by decide +kernel, rfl, by decide +kernel, by decide +kernel⟩
abbrev s_is_number : Stmt := topS 7
abbrev n_is_number : List Str := ["value"]
theorem sc_is_number : FnScope n_is_number ["value"] (defScope s_is_number) := ⟨rfl, rfl, rfl, by decide +kernel, rfl, by decide +kernel, by decide +kernel⟩
abbrev s_Turns_init : Stmt := inClass (topS 9) 0
abbrev n_Turns_init : List Str := ["self", "ranked", "lent", "fair"]
theorem sc_Turns_init : FnScope n_Turns_init ["self", "ranked", "lent", "fair"] (defScope s_Turns_init) := ⟨rfl, rfl, rfl, by decide +kernel, rfl, by decide +kernel, by decide +kernel⟩
abbrev s_hanging : Stmt := topS 11
abbrev n_hanging : List Str := ["waits", "task", "found", "here"]
theorem sc_hanging : FnScope n_hanging ["waits", "task"] (defScope s_hanging) := ⟨rfl, rfl, rfl, by decide +kernel, rfl, by decide +kernel, by decide +kernel⟩
abbrev s_ranks_now : Stmt := topS 12
abbrev n_ranks_now : List Str := ["turns", "ranks", "waits", "found", "task", "rank", "other"]
theorem sc_ranks_now : FnScope n_ranks_now ["turns", "ranks", "waits"] (defScope s_ranks_now) := ⟨rfl, rfl, rfl, by decide +kernel, rfl, by decide +kernel, by decide +kernel⟩
abbrev s_may : Stmt := topS 13
abbrev n_may : List Str := ["turns", "ranks", "can", "waits", "memory", "most", "task", "now", "greatest"]
theorem sc_may : FnScope n_may ["turns", "ranks", "can", "waits", "memory"] (defScope s_may) := ⟨rfl, rfl, rfl, by decide +kernel, rfl, by decide +kernel, by decide +kernel⟩
abbrev s_memory_after : Stmt := topS 14
abbrev n_memory_after : List Str := ["turns", "memory", "can", "task", "other", "number"]
theorem sc_memory_after : FnScope n_memory_after ["turns", "memory", "can", "task"] (defScope s_memory_after) := ⟨rfl, rfl, rfl, by decide +kernel, rfl, by decide +kernel, by decide +kernel⟩
abbrev s_box : Stmt := topS 16
abbrev n_box : List Str := ["_law_script", "_law_k", "_law_cell", "_law_great"]
theorem sc_box : FnScope n_box ["_law_script", "_law_k"] (defScope s_box) := ⟨rfl, rfl, rfl, by decide +kernel, rfl, by decide +kernel, by decide +kernel⟩
abbrev s_take : Stmt := topS 17
abbrev n_take : List Str := ["_law_box_here", "_law_many", "_law_digit", "_law_raw"]
theorem sc_take : FnScope n_take ["_law_box_here", "_law_many"] (defScope s_take) := ⟨rfl, rfl, rfl, by decide +kernel, rfl, by decide +kernel, by decide +kernel⟩
abbrev s_pick : Stmt := topS 18
abbrev n_pick : List Str := ["_law_box_here", "_law_some"]
theorem sc_pick : FnScope n_pick ["_law_box_here", "_law_some"] (defScope s_pick) := ⟨rfl, rfl, rfl, by decide +kernel, rfl, by decide +kernel, by decide +kernel⟩
abbrev s_hung : Stmt := topS 19
abbrev n_hung : List Str := ["_law_waits", "_law_task", "_law_found", "_law_here"]
theorem sc_hung : FnScope n_hung ["_law_waits", "_law_task"] (defScope s_hung) := ⟨rfl, rfl, rfl, by decide +kernel, rfl, by decide +kernel, by decide +kernel⟩
abbrev s_lentl : Stmt := topS 20
abbrev n_lentl : List Str := ["_law_ranks", "_law_waits", "_law_found", "_law_task", "_law_other"]
theorem sc_lentl : FnScope n_lentl ["_law_ranks", "_law_waits"] (defScope s_lentl) := ⟨rfl, rfl, rfl, by decide +kernel, rfl, by decide +kernel, by decide +kernel⟩
abbrev s_chosen : Stmt := topS 21
abbrev n_chosen : List Str := ["_law_turns", "_law_ranks", "_law_able", "_law_waits", "_law_memory", "_law_most", "_law_task", "_law_now", "_law_top"]
theorem sc_chosen : FnScope n_chosen ["_law_turns", "_law_ranks", "_law_able", "_law_waits", "_law_memory"] (defScope s_chosen) := ⟨rfl, rfl, rfl, by decide +kernel, rfl, by decide +kernel, by decide +kernel⟩
abbrev s_law : Stmt := topS 22
abbrev n_law : List Str := ["_law_script", "_law_box_here", "_law_turn", "_law_many", "_law_ranks", "_law_task", "_law_waits", "_law_other", "_law_able", "_law_ranked", "_law_fair", "_law_memory", "_law_told", "_law_made", "_law_due", "_law_rank", "_law_chosen_here", "_law_hung_here", "_law_now", "_law_found", "_law_later", "_law_at", "_law_n"]
theorem sc_law : FnScope n_law ["_law_script"] (defScope s_law) := ⟨rfl, rfl, rfl, by decide +kernel, rfl, by decide +kernel, by decide +kernel⟩
structure Tx (K : Kt) (mg : Str → Option Value) : Prop where
  b_len : mg "len" = none
  b_int : mg "int" = none
  b_abs : mg "abs" = none
  b_tuple : mg "tuple" = none
  b_list : mg "list" = none
  b_max : mg "max" = none
  b_isinstance : mg "isinstance" = none
  b_bool : mg "bool" = none
  b_range : mg "range" = none
  b_enumerate : mg "enumerate" = none
  b_repr : mg "repr" = none
  f_Turns_ranked : FldOk K 0 "ranked"
  f_Turns_lent : FldOk K 0 "lent"
  f_Turns_fair : FldOk K 0 "fair"
  t_is_integer : Txt1 K mg "is_integer" s_is_integer ["value"]
  t_is_number : Txt1 K mg "is_number" s_is_number ["value"]
  t_Turns_init : TxtC K mg "Turns" 0 s_Turns_init ["self", "ranked", "lent", "fair"]
  t_hanging : Txt1 K mg "hanging" s_hanging ["waits", "task"]
  t_ranks_now : Txt1 K mg "ranks_now" s_ranks_now ["turns", "ranks", "waits"]
  t_may : Txt1 K mg "may" s_may ["turns", "ranks", "can", "waits", "memory"]
  t_memory_after : Txt1 K mg "memory_after" s_memory_after ["turns", "memory", "can", "task"]
  t_box : Txt1 K mg "_law_box" s_box ["_law_script", "_law_k"]
  t_take : Txt1 K mg "_law_take" s_take ["_law_box_here", "_law_many"]
  t_pick : Txt1 K mg "_law_pick" s_pick ["_law_box_here", "_law_some"]
  t_hung : Txt1 K mg "_law_hung" s_hung ["_law_waits", "_law_task"]
  t_lentl : Txt1 K mg "_law_lent" s_lentl ["_law_ranks", "_law_waits"]
  t_chosen : Txt1 K mg "_law_chosen" s_chosen ["_law_turns", "_law_ranks", "_law_able", "_law_waits", "_law_memory"]
def b_is_integer : Sx :=
  (sRet (eAnd (eUn (gIsi "int") (eVar 0)) (eNot (eUn (gIsi "bool") (eVar 0)))))
theorem ok_is_integer {P : Program} {w : World} {K : Kt} {mg : Str → Option Value} {base : Heap} (T : Tx K mg) : Def P w K mg base "is_integer" s_is_integer 1 ["value"] (runF 1 b_is_integer) := by
  refine mkDef T.t_is_integer sc_is_integer ?_
  rintro f G rfl cdv A outer s H E hr
  exact (ds_one (ds_ret (de_and rfl (de_isi rfl rfl T.b_isinstance rfl T.b_int (by decide +kernel) (de_var (pv 0))) (de_one (de_not rfl (de_isi rfl rfl T.b_isinstance rfl T.b_bool (by decide +kernel) (de_var (pv 0))))))))
def isIntF : Fn := trimF (runF 1 b_is_integer)

theorem ok1_is_integer {P : Program} {w : World} {K : Kt} {mg : Str → Option Value} {base : Heap} (T : Tx K mg) : Def P w K mg base "is_integer" s_is_integer 1 ["value"] isIntF := (ok_is_integer T ).trim
def b_is_number : Sx :=
  (sRet (eAnd (eCall 0 isIntF (aCons (eVar 0) aNil)) (eOp gGe (eVar 0) (eC (.int 0)))))
theorem ok_is_number {P : Program} {w : World} {K : Kt} {mg : Str → Option Value} {base : Heap} (T : Tx K mg) (d_is_integer : Def P w K mg base "is_integer" s_is_integer 1 ["value"] isIntF) : Def P w K mg base "is_number" s_is_number 2 ["value"] (runF 1 b_is_number) := by
  refine mkDef T.t_is_number sc_is_number ?_
  rintro f G rfl cdv A outer s H E hr
  exact (ds_one (ds_ret (de_and rfl (de_callD 0 d_is_integer rfl (takes_of rfl rfl rfl rfl) (hr.mono (by decide)) (da_cons (de_var (pv 0)) da_nil) (alen_cons alen_nil)) (de_one (de_ge (de_var (pv 0)) de_int)))))
def isNumF : Fn := trimF (runF 1 b_is_number)

theorem ok1_is_number {P : Program} {w : World} {K : Kt} {mg : Str → Option Value} {base : Heap} (T : Tx K mg) (d_is_integer : Def P w K mg base "is_integer" s_is_integer 1 ["value"] isIntF) : Def P w K mg base "is_number" s_is_number 2 ["value"] isNumF := (ok_is_number T d_is_integer).trim
def b_Turns_init : Sx :=
  (sSeq (sIf (tNot' (tTru (eUn (gIsi "bool") (eVar 1)))) sNever sNil)
    (sSeq (sIf (tOr' (tNot' (tTru (eUn (gIsi "bool") (eVar 2)))) (tAnd' (tTru (eVar 2)) (tNot' (tTru (eVar 1))))) sNever sNil)
    (sSeq (sIf (tAnd' (tCmp' (gIs true) (eVar 3) (eC .non)) (tOr' (tNot' (tTru (eCall 0 isNumF (aCons (eVar 3) aNil)))) (tCmp' (gEqB false) (eVar 3) (eC (.int 0))))) sNever sNil)
    (sSeq (sSetFld 0 "ranked" (eVar 1) (eVar 0))
    (sSeq (sSetFld 0 "lent" (eVar 2) (eVar 0))
    (sSetFld 0 "fair" (eVar 3) (eVar 0)))))))
theorem ok_Turns_init {P : Program} {w : World} {K : Kt} {mg : Str → Option Value} {base : Heap} (T : Tx K mg) (d_is_number : Def P w K mg base "is_number" s_is_number 2 ["value"] isNumF) : DefC P w K mg base "Turns" 0 3 ["self", "ranked", "lent", "fair"] (runF 4 b_Turns_init) := by
  refine mkDefC T.t_Turns_init sc_Turns_init ?_
  rintro f G rfl cdv A outer s H E hr
  exact (ds_cons (ds_if (dt_not (dt_tru rfl (de_isi rfl rfl T.b_isinstance rfl T.b_bool (by decide +kernel) (de_var (pv 1))))) (ds_one ds_never) ds_nil)
    (ds_cons (ds_if (dt_w (dw_or (dt_not (dt_tru rfl (de_isi rfl rfl T.b_isinstance rfl T.b_bool (by decide +kernel) (de_var (pv 2))))) (dw_or1 (dt_w (dw_and (dt_tru rfl (de_var (pv 2))) (dw_and1 (dt_not (dt_tru rfl (de_var (pv 1)))))))))) (ds_one ds_never) ds_nil)
    (ds_cons (ds_if (dt_w (dw_and (dt_isnot (de_var (pv 3)) de_non) (dw_and1 (dt_w (dw_or (dt_not (dt_tru rfl (de_callD 0 d_is_number rfl (takes_of rfl rfl rfl rfl) (hr.mono (by decide)) (da_cons (de_var (pv 3)) da_nil) (alen_cons alen_nil)))) (dw_or1 (dt_eq rfl hr.units (de_var (pv 3)) de_int))))))) (ds_one ds_never) ds_nil)
    (ds_cons (ds_fld rfl T.f_Turns_ranked (de_var (pv 0)) (de_var (pv 1)))
    (ds_cons (ds_fld rfl T.f_Turns_lent (de_var (pv 0)) (de_var (pv 2)))
    (ds_one (ds_fld rfl T.f_Turns_fair (de_var (pv 0)) (de_var (pv 3)))))))))
def turnsInitF : Fn := runF 4 b_Turns_init

theorem ok1_Turns_init {P : Program} {w : World} {K : Kt} {mg : Str → Option Value} {base : Heap} (T : Tx K mg) (d_is_number : Def P w K mg base "is_number" s_is_number 2 ["value"] isNumF) : DefC P w K mg base "Turns" 0 3 ["self", "ranked", "lent", "fair"] turnsInitF := (ok_Turns_init T d_is_number)
def b_hanging : Sx :=
  (sSeq (sPar [2, 3] (aCons (eLoc aNil) (aCons (eOp gIx (eVar 0) (eVar 1)) aNil)))
    (sSeq (sWhile (fun _ => 6) (tAnd' (tCmp' (gIs true) (eVar 3) (eC .non)) (tAnd' (tCmp' (gIn true) (eVar 3) (eVar 2)) (tCmp' (gEqB true) (eVar 3) (eVar 1)))) (sSeq (sExpr (eAppend (eVar 2) (eVar 3)))
    (sAsg (eOp gIx (eVar 0) (eVar 3)) (gNm 3))))
    (sRet (eB hTuple (aCons (eVar 2) aNil)))))
theorem ok_hanging {P : Program} {w : World} {K : Kt} {mg : Str → Option Value} {base : Heap} (T : Tx K mg) : Def P w K mg base "hanging" s_hanging 1 ["waits", "task"] (runF 4 b_hanging) := by
  refine mkDef T.t_hanging sc_hanging ?_
  rintro f G rfl cdv A outer s H E hr
  exact (ds_cons (ds_par (i := 2) (j := 3) rfl sc_hanging.nd (da_cons (de_loc da_nil) (da_cons (de_ix rfl (de_var (pv 0)) (de_var (pv 1))) da_nil)) (by decide))
    (ds_cons (ds_while (fuel := (fun _ => 6)) (passes_of rfl) (dt_w (dw_and (dt_isnot (de_var (pv 3)) de_non) (dw_and (dt_notin rfl (de_var (pv 3)) (de_var (pv 2))) (dw_and1 (dt_ne rfl hr.units (de_var (pv 3)) (de_var (pv 1))))))) (ds_cons (ds_expr (de_append rfl (pe_bm PySem.F.plainAttrs_list PySem.F.slot_list_append PySem.F.type_list_append mt_append (de_var (pv 2)) (pa_cons (de_var (pv 3)) pa_nil))))
    (ds_one (ds_set (i := 3) sc_hanging.nd (de_ix rfl (de_var (pv 0)) (de_var (pv 3)))))))
    (ds_one (ds_ret (de_tuple1 rfl rfl T.b_tuple (da_cons (de_var (pv 2)) da_nil))))))
def hangF : Fn := trimF (runF 4 b_hanging)

theorem ok1_hanging {P : Program} {w : World} {K : Kt} {mg : Str → Option Value} {base : Heap} (T : Tx K mg) : Def P w K mg base "hanging" s_hanging 1 ["waits", "task"] hangF := (ok_hanging T ).trim
def b_ranks_now : Sx :=
  (sSeq (sAsg (eB (hList true) (aCons (eVar 1) aNil)) (gNm 3))
    (sSeq (sIf (tTru (eUn (gFldC 0 "lent") (eVar 0))) (sFor (iEnT (aCons (eVar 1) aNil)) (gTp 2 (gsCons (gNm 4) (gsCons (gNm 5) gsNil))) (sFor (iT (eCall 0 hangF (aCons (eVar 2) (aCons (eVar 4) aNil)))) (gNm 6) (sSetIx (eB hMax (aCons (eOp gIx (eVar 3) (eVar 6)) (aCons (eVar 5) aNil))) (eVar 3) (eVar 6)))) sNil)
    (sRet (eB hTuple (aCons (eVar 3) aNil)))))
theorem ok_ranks_now {P : Program} {w : World} {K : Kt} {mg : Str → Option Value} {base : Heap} (T : Tx K mg) (d_hanging : Def P w K mg base "hanging" s_hanging 1 ["waits", "task"] hangF) : Def P w K mg base "ranks_now" s_ranks_now 2 ["turns", "ranks", "waits"] (runF 7 b_ranks_now) := by
  refine mkDef T.t_ranks_now sc_ranks_now ?_
  rintro f G rfl cdv A outer s H E hr
  exact (ds_cons (ds_set (i := 3) sc_ranks_now.nd (de_list1 true rfl rfl T.b_list (da_cons (de_var (pv 1)) da_nil)))
    (ds_cons (ds_if (dt_tru rfl (de_fld rfl T.f_Turns_lent (de_var (pv 0)))) (ds_one (ds_for (passes_of rfl) rfl (di_enumT rfl rfl T.b_enumerate (da_cons (de_var (pv 1)) da_nil)) (dg_tup rfl rfl (dgs_cons (dg_name (i := 4) sc_ranks_now.nd) (dgs_cons (dg_name (i := 5) sc_ranks_now.nd) dgs_nil))) (ds_one (ds_for (passes_of rfl) rfl (di_tup rfl (de_callD 0 d_hanging rfl (takes_of rfl rfl rfl rfl) (hr.mono (by decide)) (da_cons (de_var (pv 2)) (da_cons (de_var (pv 4)) da_nil)) (alen_cons (alen_cons alen_nil)))) (dg_name (i := 6) sc_ranks_now.nd) (ds_one (ds_setIx (de_max rfl rfl rfl T.b_max (da_cons (de_ix rfl (de_var (pv 3)) (de_var (pv 6))) (da_cons (de_var (pv 5)) da_nil))) (de_var (pv 3)) (de_var (pv 6)))))))) ds_nil)
    (ds_one (ds_ret (de_tuple1 rfl rfl T.b_tuple (da_cons (de_var (pv 3)) da_nil))))))
def ranksF : Fn := trimF (runF 7 b_ranks_now)

theorem ok1_ranks_now {P : Program} {w : World} {K : Kt} {mg : Str → Option Value} {base : Heap} (T : Tx K mg) (d_hanging : Def P w K mg base "hanging" s_hanging 1 ["waits", "task"] hangF) : Def P w K mg base "ranks_now" s_ranks_now 2 ["turns", "ranks", "waits"] ranksF := (ok_ranks_now T d_hanging).trim
def b_may : Sx :=
  (sSeq (sIf (tCmp' (gEqB false) (eB hLen (aCons (eVar 2) aNil)) (eC (.int 0))) (sRet (eTup aNil)) sNil)
    (sSeq (sAsg (eB hMax (aCons (eLc (iT (eVar 2)) (gNm 6) tTrue (eOp gIx (eVar 4) (eVar 6)) [6]) aNil)) (gNm 5))
    (sSeq (sIf (tAnd' (tCmp' (gIs true) (eUn (gFldC 0 "fair") (eVar 0)) (eC .non)) (tCmp' gGe (eVar 5) (eUn (gFldC 0 "fair") (eVar 0)))) (sRet (eB hTuple (aCons (eLc (iT (eVar 2)) (gNm 6) (tCmp' (gEqB false) (eOp gIx (eVar 4) (eVar 6)) (eVar 5)) (eVar 6) [6]) aNil))) sNil)
    (sSeq (sIf (tNot' (tTru (eUn (gFldC 0 "ranked") (eVar 0)))) (sRet (eB hTuple (aCons (eVar 2) aNil))) sNil)
    (sSeq (sAsg (eCall 0 ranksF (aCons (eVar 0) (aCons (eVar 1) (aCons (eVar 3) aNil)))) (gNm 7))
    (sSeq (sAsg (eB hMax (aCons (eLc (iT (eVar 2)) (gNm 6) tTrue (eOp gIx (eVar 7) (eVar 6)) [6]) aNil)) (gNm 8))
    (sRet (eB hTuple (aCons (eLc (iT (eVar 2)) (gNm 6) (tCmp' (gEqB false) (eOp gIx (eVar 7) (eVar 6)) (eVar 8)) (eVar 6) [6]) aNil)))))))))
theorem ok_may {P : Program} {w : World} {K : Kt} {mg : Str → Option Value} {base : Heap} (T : Tx K mg) (d_ranks_now : Def P w K mg base "ranks_now" s_ranks_now 2 ["turns", "ranks", "waits"] ranksF) : Def P w K mg base "may" s_may 3 ["turns", "ranks", "can", "waits", "memory"] (runF 9 b_may) := by
  refine mkDef T.t_may sc_may ?_
  rintro f G rfl cdv A outer s H E hr
  exact (ds_cons (ds_if (dt_eq rfl hr.units (de_len rfl rfl T.b_len (da_cons (de_var (pv 2)) da_nil)) de_int) (ds_one (ds_ret (de_tup da_nil))) ds_nil)
    (ds_cons (ds_set (i := 5) sc_may.nd (de_max rfl rfl rfl T.b_max (da_cons (de_lc (own := [("task", 6)]) rfl sc_may.nd (di_tup rfl (de_var (pv 2))) (blkOk_by (N := n_may) (sc := defScope s_may) (by decide +kernel)) (by decide) (fun _ _ _ _ _ => (dg_name (i := 6) sc_may.nd)) (fun _ _ _ _ _ => dts_nil) (fun _ _ _ _ _ => (de_ix rfl (de_var (pv 4)) (de_var (pv 6))))) da_nil)))
    (ds_cons (ds_if (dt_w (dw_and (dt_isnot (de_fld rfl T.f_Turns_fair (de_var (pv 0))) de_non) (dw_and1 (dt_ge (de_var (pv 5)) (de_fld rfl T.f_Turns_fair (de_var (pv 0))))))) (ds_one (ds_ret (de_tuple1 rfl rfl T.b_tuple (da_cons (de_lc (own := [("task", 6)]) rfl sc_may.nd (di_tup rfl (de_var (pv 2))) (blkOk_by (N := n_may) (sc := defScope s_may) (by decide +kernel)) (by decide) (fun _ _ _ _ _ => (dg_name (i := 6) sc_may.nd)) (fun _ _ _ _ _ => (dts_one (dt_eq rfl hr.units (de_ix rfl (de_var (pv 4)) (de_var (pv 6))) (de_var (pv 5))))) (fun _ _ _ _ _ => (de_var (pv 6)))) da_nil)))) ds_nil)
    (ds_cons (ds_if (dt_not (dt_tru rfl (de_fld rfl T.f_Turns_ranked (de_var (pv 0))))) (ds_one (ds_ret (de_tuple1 rfl rfl T.b_tuple (da_cons (de_var (pv 2)) da_nil)))) ds_nil)
    (ds_cons (ds_set (i := 7) sc_may.nd (de_callD 0 d_ranks_now rfl (takes_of rfl rfl rfl rfl) (hr.mono (by decide)) (da_cons (de_var (pv 0)) (da_cons (de_var (pv 1)) (da_cons (de_var (pv 3)) da_nil))) (alen_cons (alen_cons (alen_cons alen_nil)))))
    (ds_cons (ds_set (i := 8) sc_may.nd (de_max rfl rfl rfl T.b_max (da_cons (de_lc (own := [("task", 6)]) rfl sc_may.nd (di_tup rfl (de_var (pv 2))) (blkOk_by (N := n_may) (sc := defScope s_may) (by decide +kernel)) (by decide) (fun _ _ _ _ _ => (dg_name (i := 6) sc_may.nd)) (fun _ _ _ _ _ => dts_nil) (fun _ _ _ _ _ => (de_ix rfl (de_var (pv 7)) (de_var (pv 6))))) da_nil)))
    (ds_one (ds_ret (de_tuple1 rfl rfl T.b_tuple (da_cons (de_lc (own := [("task", 6)]) rfl sc_may.nd (di_tup rfl (de_var (pv 2))) (blkOk_by (N := n_may) (sc := defScope s_may) (by decide +kernel)) (by decide) (fun _ _ _ _ _ => (dg_name (i := 6) sc_may.nd)) (fun _ _ _ _ _ => (dts_one (dt_eq rfl hr.units (de_ix rfl (de_var (pv 7)) (de_var (pv 6))) (de_var (pv 8))))) (fun _ _ _ _ _ => (de_var (pv 6)))) da_nil))))))))))
def mayF : Fn := trimF (runF 9 b_may)

theorem ok1_may {P : Program} {w : World} {K : Kt} {mg : Str → Option Value} {base : Heap} (T : Tx K mg) (d_ranks_now : Def P w K mg base "ranks_now" s_ranks_now 2 ["turns", "ranks", "waits"] ranksF) : Def P w K mg base "may" s_may 3 ["turns", "ranks", "can", "waits", "memory"] mayF := (ok_may T d_ranks_now).trim
def b_memory_after : Sx :=
  (sSeq (sIf (tCmp' (gIs false) (eUn (gFldC 0 "fair") (eVar 0)) (eC .non)) (sRet (eVar 1)) sNil)
    (sRet (eB hTuple (aCons (eLc (iEnT (aCons (eVar 1) aNil)) (gTp 2 (gsCons (gNm 4) (gsCons (gNm 5) gsNil))) tTrue (eIf (tAnd' (tCmp' (gIn false) (eVar 4) (eVar 2)) (tCmp' (gEqB true) (eVar 4) (eVar 3))) (eOp gAdd (eVar 5) (eC (.int 1))) (eC (.int 0))) [4, 5]) aNil))))
theorem ok_memory_after {P : Program} {w : World} {K : Kt} {mg : Str → Option Value} {base : Heap} (T : Tx K mg) : Def P w K mg base "memory_after" s_memory_after 1 ["turns", "memory", "can", "task"] (runF 6 b_memory_after) := by
  refine mkDef T.t_memory_after sc_memory_after ?_
  rintro f G rfl cdv A outer s H E hr
  exact (ds_cons (ds_if (dt_is (de_fld rfl T.f_Turns_fair (de_var (pv 0))) de_non) (ds_one (ds_ret (de_var (pv 1)))) ds_nil)
    (ds_one (ds_ret (de_tuple1 rfl rfl T.b_tuple (da_cons (de_lc (own := [("other", 4), ("number", 5)]) rfl sc_memory_after.nd (di_enumT rfl rfl T.b_enumerate (da_cons (de_var (pv 1)) da_nil)) (blkOk_by (N := n_memory_after) (sc := defScope s_memory_after) (by decide +kernel)) (by decide) (fun _ _ _ _ _ => (dg_tup rfl rfl (dgs_cons (dg_name (i := 4) sc_memory_after.nd) (dgs_cons (dg_name (i := 5) sc_memory_after.nd) dgs_nil)))) (fun _ _ _ _ _ => dts_nil) (fun _ _ _ _ _ => (de_if (dt_w (dw_and (dt_in rfl (de_var (pv 4)) (de_var (pv 2))) (dw_and1 (dt_ne rfl hr.units (de_var (pv 4)) (de_var (pv 3)))))) (de_add rfl (de_var (pv 5)) de_int) de_int))) da_nil)))))
def memF : Fn := trimF (runF 6 b_memory_after)

theorem ok1_memory_after {P : Program} {w : World} {K : Kt} {mg : Str → Option Value} {base : Heap} (T : Tx K mg) : Def P w K mg base "memory_after" s_memory_after 1 ["turns", "memory", "can", "task"] memF := (ok_memory_after T ).trim
def b_box : Sx :=
  (sSeq (sAsg (eOp gAdd (eOp gMul (eC (.int 9029)) (eVar 1)) (eC (.int 173))) (gNm 2))
    (sSeq (sIf (tCmp' gLt (eVar 1) (eB hLen (aCons (eVar 0) aNil))) (sAsg (eB hAbs (aCons (eB hInt (aCons (eOp gIx (eVar 0) (eVar 1)) aNil)) aNil)) (gNm 2)) (sIf (tCmp' gGt (eB hLen (aCons (eVar 0) aNil)) (eC (.int 0))) (sAsg (eOp gAdd (eVar 2) (eOp gMul (eOp gMod (eB hInt (aCons (eB hAbs (aCons (eB hInt (aCons (eOp gIx (eVar 0) (eOp gMod (eB hInt (aCons (eVar 1) aNil)) (eB hLen (aCons (eVar 0) aNil)))) aNil)) aNil)) aNil)) (eC (.int 2147483629))) (eC (.int 61757)))) (gNm 2)) sNil))
    (sSeq (sAsg (eIf (tCmp' gGe (eVar 2) (eOp gPow (eC (.int 10)) (eC (.int 18)))) (eVar 2) (eC (.int 0))) (gNm 3))
    (sRet (eLoc (aCons (eVar 3) (aCons (eOp gAdd (eOp gMod (eB hInt (aCons (eOp gAdd (eOp gMul (eOp gMod (eB hInt (aCons (eVar 2) aNil)) (eC (.int 2147483629))) (eC (.int 48271))) (eOp gMul (eC (.int 42641)) (eVar 1))) aNil)) (eC (.int 2147483629))) (eC (.int 1))) aNil)))))))
theorem ok_box {P : Program} {w : World} {K : Kt} {mg : Str → Option Value} {base : Heap} (T : Tx K mg) : Def P w K mg base "_law_box" s_box 1 ["_law_script", "_law_k"] (runF 4 b_box) := by
  refine mkDef T.t_box sc_box ?_
  rintro f G rfl cdv A outer s H E hr
  exact (ds_cons (ds_set (i := 2) sc_box.nd (de_add rfl (de_mul de_int (de_var (pv 1))) de_int))
    (ds_cons (ds_if (dt_lt (de_var (pv 1)) (de_len rfl rfl T.b_len (da_cons (de_var (pv 0)) da_nil))) (ds_one (ds_set (i := 2) sc_box.nd (de_abs rfl T.b_abs (da_cons (de_int1 rfl T.b_int (da_cons (de_ix rfl (de_var (pv 0)) (de_var (pv 1))) da_nil)) da_nil)))) (ds_one (ds_if (dt_gt (de_len rfl rfl T.b_len (da_cons (de_var (pv 0)) da_nil)) de_int) (ds_one (ds_set (i := 2) sc_box.nd (de_add rfl (de_var (pv 2)) (de_mul (de_mod (de_int1 rfl T.b_int (da_cons (de_abs rfl T.b_abs (da_cons (de_int1 rfl T.b_int (da_cons (de_ix rfl (de_var (pv 0)) (de_mod (de_int1 rfl T.b_int (da_cons (de_var (pv 1)) da_nil)) (de_len rfl rfl T.b_len (da_cons (de_var (pv 0)) da_nil)))) da_nil)) da_nil)) da_nil)) de_int) de_int)))) ds_nil)))
    (ds_cons (ds_set (i := 3) sc_box.nd (de_if (dt_ge (de_var (pv 2)) (de_pow de_int de_int)) (de_var (pv 2)) de_int))
    (ds_one (ds_ret (de_loc (da_cons (de_var (pv 3)) (da_cons (de_add rfl (de_mod (de_int1 rfl T.b_int (da_cons (de_add rfl (de_mul (de_mod (de_int1 rfl T.b_int (da_cons (de_var (pv 2)) da_nil)) de_int) de_int) (de_mul de_int (de_var (pv 1)))) da_nil)) de_int) de_int) da_nil))))))))
def boxF : Fn := runF 4 b_box

theorem ok1_box {P : Program} {w : World} {K : Kt} {mg : Str → Option Value} {base : Heap} (T : Tx K mg) : Def P w K mg base "_law_box" s_box 1 ["_law_script", "_law_k"] boxF := (ok_box T )
def b_take : Sx :=
  (sSeq (sIf (tCmp' gGt (eOp gIx (eVar 0) (eC (.int 0))) (eC (.int 0))) (sSeq (sAsg (eOp gMod (eB hInt (aCons (eOp gIx (eVar 0) (eC (.int 0))) aNil)) (eVar 1)) (gNm 2))
    (sSeq (sSetIx (eOp gFdiv (eOp gIx (eVar 0) (eC (.int 0))) (eVar 1)) (eVar 0) (eC (.int 0)))
    (sRet (eVar 2)))) sNil)
    (sSeq (sAsg (eOp gMod (eB hInt (aCons (eOp gAdd (eOp gMul (eOp gIx (eVar 0) (eC (.int 1))) (eC (.int 40014))) (eC (.int 73))) aNil)) (eC (.int 2147483563))) (gNm 3))
    (sSeq (sSetIx (eOp gAdd (eOp gMod (eB hInt (aCons (eOp gAdd (eOp gMul (eVar 3) (eC (.int 40692))) (eC (.int 4513))) aNil)) (eC (.int 2147483629))) (eC (.int 1))) (eVar 0) (eC (.int 1)))
    (sRet (eOp gMod (eB hInt (aCons (eOp gFdiv (eOp gAdd (eOp gMul (eVar 3) (eC (.int 2147483647))) (eOp gIx (eVar 0) (eC (.int 1)))) (eC (.int 8191))) aNil)) (eVar 1))))))
theorem ok_take {P : Program} {w : World} {K : Kt} {mg : Str → Option Value} {base : Heap} (T : Tx K mg) : Def P w K mg base "_law_take" s_take 1 ["_law_box_here", "_law_many"] (runF 4 b_take) := by
  refine mkDef T.t_take sc_take ?_
  rintro f G rfl cdv A outer s H E hr
  exact (ds_cons (ds_if (dt_gt (de_ix rfl (de_var (pv 0)) de_int) de_int) (ds_cons (ds_set (i := 2) sc_take.nd (de_mod (de_int1 rfl T.b_int (da_cons (de_ix rfl (de_var (pv 0)) de_int) da_nil)) (de_var (pv 1))))
    (ds_cons (ds_setIx (de_fdiv (de_ix rfl (de_var (pv 0)) de_int) (de_var (pv 1))) (de_var (pv 0)) de_int)
    (ds_one (ds_ret (de_var (pv 2)))))) ds_nil)
    (ds_cons (ds_set (i := 3) sc_take.nd (de_mod (de_int1 rfl T.b_int (da_cons (de_add rfl (de_mul (de_ix rfl (de_var (pv 0)) de_int) de_int) de_int) da_nil)) de_int))
    (ds_cons (ds_setIx (de_add rfl (de_mod (de_int1 rfl T.b_int (da_cons (de_add rfl (de_mul (de_var (pv 3)) de_int) de_int) da_nil)) de_int) de_int) (de_var (pv 0)) de_int)
    (ds_one (ds_ret (de_mod (de_int1 rfl T.b_int (da_cons (de_fdiv (de_add rfl (de_mul (de_var (pv 3)) de_int) (de_ix rfl (de_var (pv 0)) de_int)) de_int) da_nil)) (de_var (pv 1))))))))
def takeF : Fn := trimF (runF 4 b_take)

theorem ok1_take {P : Program} {w : World} {K : Kt} {mg : Str → Option Value} {base : Heap} (T : Tx K mg) : Def P w K mg base "_law_take" s_take 1 ["_law_box_here", "_law_many"] takeF := (ok_take T ).trim
def b_pick : Sx :=
  (sRet (eOp gIx (eVar 1) (eCall 1 takeF (aCons (eVar 0) (aCons (eB hLen (aCons (eVar 1) aNil)) aNil)))))
theorem ok_pick {P : Program} {w : World} {K : Kt} {mg : Str → Option Value} {base : Heap} (T : Tx K mg) (d_take : Def P w K mg base "_law_take" s_take 1 ["_law_box_here", "_law_many"] takeF) : Def P w K mg base "_law_pick" s_pick 2 ["_law_box_here", "_law_some"] (runF 2 b_pick) := by
  refine mkDef T.t_pick sc_pick ?_
  rintro f G rfl cdv A outer s H E hr
  exact (ds_one (ds_ret (de_ix rfl (de_var (pv 1)) (de_callD 1 d_take rfl (takes_of rfl rfl rfl rfl) (hr.mono (by decide)) (da_cons (de_var (pv 0)) (da_cons (de_len rfl rfl T.b_len (da_cons (de_var (pv 1)) da_nil)) da_nil)) (alen_cons (alen_cons alen_nil))))))
def pickF : Fn := trimF (runF 2 b_pick)

theorem ok1_pick {P : Program} {w : World} {K : Kt} {mg : Str → Option Value} {base : Heap} (T : Tx K mg) (d_take : Def P w K mg base "_law_take" s_take 1 ["_law_box_here", "_law_many"] takeF) : Def P w K mg base "_law_pick" s_pick 2 ["_law_box_here", "_law_some"] pickF := (ok_pick T d_take).trim
def b_hung : Sx :=
  (sSeq (sPar [2, 3] (aCons (eLoc aNil) (aCons (eOp gIx (eVar 0) (eVar 1)) aNil)))
    (sSeq (sWhile (fun _ => 6) (tAnd' (tCmp' (gIs true) (eVar 3) (eC .non)) (tAnd' (tCmp' (gIn true) (eVar 3) (eVar 2)) (tCmp' (gEqB true) (eVar 3) (eVar 1)))) (sSeq (sExpr (eAppend (eVar 2) (eVar 3)))
    (sAsg (eOp gIx (eVar 0) (eVar 3)) (gNm 3))))
    (sRet (eVar 2))))
theorem ok_hung {P : Program} {w : World} {K : Kt} {mg : Str → Option Value} {base : Heap} (T : Tx K mg) : Def P w K mg base "_law_hung" s_hung 1 ["_law_waits", "_law_task"] (runF 4 b_hung) := by
  refine mkDef T.t_hung sc_hung ?_
  rintro f G rfl cdv A outer s H E hr
  exact (ds_cons (ds_par (i := 2) (j := 3) rfl sc_hung.nd (da_cons (de_loc da_nil) (da_cons (de_ix rfl (de_var (pv 0)) (de_var (pv 1))) da_nil)) (by decide))
    (ds_cons (ds_while (fuel := (fun _ => 6)) (passes_of rfl) (dt_w (dw_and (dt_isnot (de_var (pv 3)) de_non) (dw_and (dt_notin rfl (de_var (pv 3)) (de_var (pv 2))) (dw_and1 (dt_ne rfl hr.units (de_var (pv 3)) (de_var (pv 1))))))) (ds_cons (ds_expr (de_append rfl (pe_bm PySem.F.plainAttrs_list PySem.F.slot_list_append PySem.F.type_list_append mt_append (de_var (pv 2)) (pa_cons (de_var (pv 3)) pa_nil))))
    (ds_one (ds_set (i := 3) sc_hung.nd (de_ix rfl (de_var (pv 0)) (de_var (pv 3)))))))
    (ds_one (ds_ret (de_var (pv 2))))))
def hungF : Fn := trimF (runF 4 b_hung)

theorem ok1_hung {P : Program} {w : World} {K : Kt} {mg : Str → Option Value} {base : Heap} (T : Tx K mg) : Def P w K mg base "_law_hung" s_hung 1 ["_law_waits", "_law_task"] hungF := (ok_hung T ).trim
def b_lentl : Sx :=
  (sSeq (sAsg (eB (hList true) (aCons (eVar 0) aNil)) (gNm 2))
    (sSeq (sFor (iR1 (aCons (eB hLen (aCons (eVar 0) aNil)) aNil)) (gNm 3) (sFor (iL (eCall 0 hungF (aCons (eVar 1) (aCons (eVar 3) aNil)))) (gNm 4) (sSetIx (eB hMax (aCons (eB hInt (aCons (eOp gIx (eVar 2) (eVar 4)) aNil)) (aCons (eB hInt (aCons (eOp gIx (eVar 0) (eVar 3)) aNil)) aNil))) (eVar 2) (eVar 4))))
    (sRet (eVar 2))))
theorem ok_lentl {P : Program} {w : World} {K : Kt} {mg : Str → Option Value} {base : Heap} (T : Tx K mg) (d_hung : Def P w K mg base "_law_hung" s_hung 1 ["_law_waits", "_law_task"] hungF) : Def P w K mg base "_law_lent" s_lentl 2 ["_law_ranks", "_law_waits"] (runF 5 b_lentl) := by
  refine mkDef T.t_lentl sc_lentl ?_
  rintro f G rfl cdv A outer s H E hr
  exact (ds_cons (ds_set (i := 2) sc_lentl.nd (de_list1 true rfl rfl T.b_list (da_cons (de_var (pv 0)) da_nil)))
    (ds_cons (ds_for (passes_of rfl) rfl (di_range1 rfl T.b_range (da_cons (de_len rfl rfl T.b_len (da_cons (de_var (pv 0)) da_nil)) da_nil)) (dg_name (i := 3) sc_lentl.nd) (ds_one (ds_for (passes_of rfl) rfl (di_list rfl (de_callD 0 d_hung rfl (takes_of rfl rfl rfl rfl) (hr.mono (by decide)) (da_cons (de_var (pv 1)) (da_cons (de_var (pv 3)) da_nil)) (alen_cons (alen_cons alen_nil)))) (dg_name (i := 4) sc_lentl.nd) (ds_one (ds_setIx (de_max rfl rfl rfl T.b_max (da_cons (de_int1 rfl T.b_int (da_cons (de_ix rfl (de_var (pv 2)) (de_var (pv 4))) da_nil)) (da_cons (de_int1 rfl T.b_int (da_cons (de_ix rfl (de_var (pv 0)) (de_var (pv 3))) da_nil)) da_nil))) (de_var (pv 2)) (de_var (pv 4)))))))
    (ds_one (ds_ret (de_var (pv 2))))))
def lentF0 : Fn := trimF (runF 5 b_lentl)

theorem ok1_lentl {P : Program} {w : World} {K : Kt} {mg : Str → Option Value} {base : Heap} (T : Tx K mg) (d_hung : Def P w K mg base "_law_hung" s_hung 1 ["_law_waits", "_law_task"] hungF) : Def P w K mg base "_law_lent" s_lentl 2 ["_law_ranks", "_law_waits"] lentF0 := (ok_lentl T d_hung).trim
def b_chosen : Sx :=
  (sSeq (sIf (tCmp' (gEqB false) (eVar 2) (eLst aNil)) (sRet (eLst aNil)) sNil)
    (sSeq (sAsg (eB hMax (aCons (eLc (iL (eVar 2)) (gNm 6) tTrue (eB hInt (aCons (eOp gIx (eVar 4) (eVar 6)) aNil)) [6]) aNil)) (gNm 5))
    (sSeq (sIf (tAnd' (tCmp' (gIs true) (eOp gIx (eVar 0) (eC (.int 2))) (eC .non)) (tCmp' gGe (eVar 5) (eOp gIx (eVar 0) (eC (.int 2))))) (sRet (eLc (iL (eVar 2)) (gNm 6) (tCmp' (gEqB false) (eOp gIx (eVar 4) (eVar 6)) (eVar 5)) (eVar 6) [6])) sNil)
    (sSeq (sAsg (eIf (tTru (eOp gIx (eVar 0) (eC (.int 1)))) (eCall 0 lentF0 (aCons (eVar 1) (aCons (eVar 3) aNil))) (eVar 1)) (gNm 7))
    (sSeq (sAsg (eB hMax (aCons (eLc (iL (eVar 2)) (gNm 6) tTrue (eB hInt (aCons (eOp gIx (eVar 7) (eVar 6)) aNil)) [6]) aNil)) (gNm 8))
    (sRet (eLc (iL (eVar 2)) (gNm 6) (tOr' (tNot' (tTru (eOp gIx (eVar 0) (eC (.int 0))))) (tCmp' (gEqB false) (eOp gIx (eVar 7) (eVar 6)) (eVar 8))) (eVar 6) [6])))))))
theorem ok_chosen {P : Program} {w : World} {K : Kt} {mg : Str → Option Value} {base : Heap} (T : Tx K mg) (d_lentl : Def P w K mg base "_law_lent" s_lentl 2 ["_law_ranks", "_law_waits"] lentF0) : Def P w K mg base "_law_chosen" s_chosen 3 ["_law_turns", "_law_ranks", "_law_able", "_law_waits", "_law_memory"] (runF 9 b_chosen) := by
  refine mkDef T.t_chosen sc_chosen ?_
  rintro f G rfl cdv A outer s H E hr
  exact (ds_cons (ds_if (dt_eq rfl hr.units (de_var (pv 2)) (de_lst da_nil)) (ds_one (ds_ret (de_lst da_nil))) ds_nil)
    (ds_cons (ds_set (i := 5) sc_chosen.nd (de_max rfl rfl rfl T.b_max (da_cons (de_lc (own := [("_law_task", 6)]) rfl sc_chosen.nd (di_list rfl (de_var (pv 2))) (blkOk_by (N := n_chosen) (sc := defScope s_chosen) (by decide +kernel)) (by decide) (fun _ _ _ _ _ => (dg_name (i := 6) sc_chosen.nd)) (fun _ _ _ _ _ => dts_nil) (fun _ _ _ _ _ => (de_int1 rfl T.b_int (da_cons (de_ix rfl (de_var (pv 4)) (de_var (pv 6))) da_nil)))) da_nil)))
    (ds_cons (ds_if (dt_w (dw_and (dt_isnot (de_ix rfl (de_var (pv 0)) de_int) de_non) (dw_and1 (dt_ge (de_var (pv 5)) (de_ix rfl (de_var (pv 0)) de_int))))) (ds_one (ds_ret (de_lc (own := [("_law_task", 6)]) rfl sc_chosen.nd (di_list rfl (de_var (pv 2))) (blkOk_by (N := n_chosen) (sc := defScope s_chosen) (by decide +kernel)) (by decide) (fun _ _ _ _ _ => (dg_name (i := 6) sc_chosen.nd)) (fun _ _ _ _ _ => (dts_one (dt_eq rfl hr.units (de_ix rfl (de_var (pv 4)) (de_var (pv 6))) (de_var (pv 5))))) (fun _ _ _ _ _ => (de_var (pv 6)))))) ds_nil)
    (ds_cons (ds_set (i := 7) sc_chosen.nd (de_if (dt_tru rfl (de_ix rfl (de_var (pv 0)) de_int)) (de_callD 0 d_lentl rfl (takes_of rfl rfl rfl rfl) (hr.mono (by decide)) (da_cons (de_var (pv 1)) (da_cons (de_var (pv 3)) da_nil)) (alen_cons (alen_cons alen_nil))) (de_var (pv 1))))
    (ds_cons (ds_set (i := 8) sc_chosen.nd (de_max rfl rfl rfl T.b_max (da_cons (de_lc (own := [("_law_task", 6)]) rfl sc_chosen.nd (di_list rfl (de_var (pv 2))) (blkOk_by (N := n_chosen) (sc := defScope s_chosen) (by decide +kernel)) (by decide) (fun _ _ _ _ _ => (dg_name (i := 6) sc_chosen.nd)) (fun _ _ _ _ _ => dts_nil) (fun _ _ _ _ _ => (de_int1 rfl T.b_int (da_cons (de_ix rfl (de_var (pv 7)) (de_var (pv 6))) da_nil)))) da_nil)))
    (ds_one (ds_ret (de_lc (own := [("_law_task", 6)]) rfl sc_chosen.nd (di_list rfl (de_var (pv 2))) (blkOk_by (N := n_chosen) (sc := defScope s_chosen) (by decide +kernel)) (by decide) (fun _ _ _ _ _ => (dg_name (i := 6) sc_chosen.nd)) (fun _ _ _ _ _ => (dts_one (dt_w (dw_or (dt_not (dt_tru rfl (de_ix rfl (de_var (pv 0)) de_int))) (dw_or1 (dt_eq rfl hr.units (de_ix rfl (de_var (pv 7)) (de_var (pv 6))) (de_var (pv 8)))))))) (fun _ _ _ _ _ => (de_var (pv 6)))))))))))
def chosenF : Fn := trimF (runF 9 b_chosen)

theorem ok1_chosen {P : Program} {w : World} {K : Kt} {mg : Str → Option Value} {base : Heap} (T : Tx K mg) (d_lentl : Def P w K mg base "_law_lent" s_lentl 2 ["_law_ranks", "_law_waits"] lentF0) : Def P w K mg base "_law_chosen" s_chosen 3 ["_law_turns", "_law_ranks", "_law_able", "_law_waits", "_law_memory"] chosenF := (ok_chosen T d_lentl).trim
def b_law : Sx :=
  (sSeq (sAsg (eCallAll boxF (aCons (eVar 0) (aCons (eC (.int 0)) aNil))) (gNm 1))
    (sSeq (sFor (iR1 (aCons (eC (.int 12)) aNil)) (gNm 2) (sSeq (sAsg (eOp gAdd (eC (.int 1)) (eCall 1 takeF (aCons (eVar 1) (aCons (eC (.int 4)) aNil)))) (gNm 3))
    (sSeq (sAsg (eLc (iR1 (aCons (eVar 3) aNil)) (gNm 5) tTrue (eCall 1 takeF (aCons (eVar 1) (aCons (eC (.int 4)) aNil))) [5]) (gNm 4))
    (sSeq (sAsg (eLc (iR1 (aCons (eVar 3) aNil)) (gNm 5) tTrue (eIf (tCmp' (gEqB false) (eCall 1 takeF (aCons (eVar 1) (aCons (eC (.int 2)) aNil))) (eC (.int 0))) (eC .non) (eCall 1 takeF (aCons (eVar 1) (aCons (eVar 3) aNil)))) [5]) (gNm 6))
    (sSeq (sAsg (eLc (iEn (aCons (eVar 6) aNil)) (gTp 2 (gsCons (gNm 5) (gsCons (gNm 7) gsNil))) tTrue (eIf (tCmp' (gEqB false) (eVar 7) (eVar 5)) (eC .non) (eVar 7)) [5, 7]) (gNm 6))
    (sSeq (sAsg (eLc (iR1 (aCons (eVar 3) aNil)) (gNm 5) (tAnd' (tCmp' (gIs false) (eOp gIx (eVar 6) (eVar 5)) (eC .non)) (tCmp' gGt (eCall 1 takeF (aCons (eVar 1) (aCons (eC (.int 4)) aNil))) (eC (.int 0)))) (eVar 5) [5]) (gNm 8))
    (sSeq (sAsg (eTup (aCons (eOp gGt (eCall 1 takeF (aCons (eVar 1) (aCons (eC (.int 3)) aNil))) (eC (.int 0))) (aCons (eCall 1 pickF (aCons (eVar 1) (aCons (eLst (aCons (eC .non) (aCons (eC (.int 1)) (aCons (eC (.int 2)) (aCons (eC (.int 3)) aNil))))) aNil))) aNil))) (gTp 2 (gsCons (gNm 9) (gsCons (gNm 10) gsNil))))
    (sSeq (sAsg (eLc (iR1 (aCons (eVar 3) aNil)) (gNm 5) tTrue (eIf (tCmp' (gIs false) (eVar 10) (eC .non)) (eC (.int 0)) (eCall 1 takeF (aCons (eVar 1) (aCons (eC (.int 5)) aNil)))) [5]) (gNm 11))
    (sSeq (sAsg (eTup (aCons (eVar 9) (aCons (eAnd (eVar 9) (eOp (gEqB false) (eCall 1 takeF (aCons (eVar 1) (aCons (eC (.int 2)) aNil))) (eC (.int 0)))) (aCons (eVar 10) aNil)))) (gNm 12))
    (sSeq (sAsg (eMake 0 turnsInitF (aCons (eOp gIx (eVar 12) (eC (.int 0))) (aCons (eOp gIx (eVar 12) (eC (.int 1))) (aCons (eOp gIx (eVar 12) (eC (.int 2))) aNil)))) (gNm 13))
    (sSeq (sAsg (eIf (tTru (eOp gIx (eVar 12) (eC (.int 1)))) (eCall 0 lentF0 (aCons (eVar 4) (aCons (eVar 6) aNil))) (eVar 4)) (gNm 14))
    (sSeq (sIf (tCmp' (gEqB true) (eB hRepr (aCons (eCall 0 ranksF (aCons (eVar 13) (aCons (eB hTuple (aCons (eVar 4) aNil)) (aCons (eB hTuple (aCons (eVar 6) aNil)) aNil)))) aNil)) (eB hRepr (aCons (eB hTuple (aCons (eLc (iL (eVar 14)) (gNm 15) tTrue (eB hInt (aCons (eVar 15) aNil)) [15]) aNil)) aNil))) (sRet (eC (.bl false))) sNil)
    (sSeq (sIf (tCmp' (gEqB true) (eCallK 0 ranksF [2, 1, 0] (aCons (eB hTuple (aCons (eVar 6) aNil)) (aCons (eB hTuple (aCons (eVar 4) aNil)) (aCons (eVar 13) aNil)))) (eB hTuple (aCons (eVar 14) aNil))) (sRet (eC (.bl false))) sNil)
    (sSeq (sAsg (eCall 0 chosenF (aCons (eVar 12) (aCons (eVar 4) (aCons (eVar 8) (aCons (eVar 6) (aCons (eVar 11) aNil)))))) (gNm 16))
    (sSeq (sIf (tCmp' (gEqB true) (eB hRepr (aCons (eCall 0 mayF (aCons (eVar 13) (aCons (eB hTuple (aCons (eVar 4) aNil)) (aCons (eB hTuple (aCons (eVar 8) aNil)) (aCons (eB hTuple (aCons (eVar 6) aNil)) (aCons (eB hTuple (aCons (eVar 11) aNil)) aNil)))))) aNil)) (eB hRepr (aCons (eB hTuple (aCons (eVar 16) aNil)) aNil))) (sRet (eC (.bl false))) sNil)
    (sSeq (sPar [17, 18] (aCons (eB hTuple (aCons (eVar 6) aNil)) (aCons (eB hTuple (aCons (eVar 11) aNil)) aNil)))
    (sSeq (sAsg (eCallK 0 mayF [4, 3, 2, 1, 0] (aCons (eVar 18) (aCons (eVar 17) (aCons (eB hTuple (aCons (eVar 8) aNil)) (aCons (eB hTuple (aCons (eVar 4) aNil)) (aCons (eVar 13) aNil)))))) (gNm 19))
    (sSeq (sIf (tCmp' (gEqB true) (eVar 19) (eB hTuple (aCons (eVar 16) aNil))) (sRet (eC (.bl false))) sNil)
    (sIf (tCmp' (gEqB true) (eVar 8) (eLst aNil)) (sSeq (sAsg (eCall 1 pickF (aCons (eVar 1) (aCons (eVar 8) aNil))) (gNm 5))
    (sSeq (sAsg (eLc (iEn (aCons (eVar 11) aNil)) (gTp 2 (gsCons (gNm 21) (gsCons (gNm 22) gsNil))) tTrue (eIf (tAnd' (tCmp' (gIn false) (eVar 21) (eVar 8)) (tCmp' (gEqB true) (eVar 21) (eVar 5))) (eOp gAdd (eVar 22) (eC (.int 1))) (eC (.int 0))) [21, 22]) (gNm 20))
    (sSeq (sAsg (eIf (tCmp' (gIs false) (eVar 10) (eC .non)) (eVar 11) (eVar 20)) (gNm 20))
    (sSeq (sIf (tCmp' (gEqB true) (eCall 0 memF (aCons (eVar 13) (aCons (eB hTuple (aCons (eVar 11) aNil)) (aCons (eB hTuple (aCons (eVar 8) aNil)) (aCons (eVar 5) aNil))))) (eB hTuple (aCons (eVar 20) aNil))) (sRet (eC (.bl false))) sNil)
    (sIf (tCmp' (gEqB true) (eCallK 0 memF [3, 2, 1, 0] (aCons (eVar 5) (aCons (eB hTuple (aCons (eVar 8) aNil)) (aCons (eB hTuple (aCons (eVar 11) aNil)) (aCons (eVar 13) aNil))))) (eB hTuple (aCons (eVar 20) aNil))) (sRet (eC (.bl false))) sNil))))) sNil)))))))))))))))))))
    (sRet (eC (.bl true)))))
theorem ok_law {P : Program} {w : World} {K : Kt} {mg : Str → Option Value} {base : Heap} (T : Tx K mg) (d_box : Def P w K mg base "_law_box" s_box 1 ["_law_script", "_law_k"] boxF) (d_chosen : Def P w K mg base "_law_chosen" s_chosen 3 ["_law_turns", "_law_ranks", "_law_able", "_law_waits", "_law_memory"] chosenF) (d_may : Def P w K mg base "may" s_may 3 ["turns", "ranks", "can", "waits", "memory"] mayF) (d_take : Def P w K mg base "_law_take" s_take 1 ["_law_box_here", "_law_many"] takeF) (d_pick : Def P w K mg base "_law_pick" s_pick 2 ["_law_box_here", "_law_some"] pickF) (d_lentl : Def P w K mg base "_law_lent" s_lentl 2 ["_law_ranks", "_law_waits"] lentF0) (d_ranks_now : Def P w K mg base "ranks_now" s_ranks_now 2 ["turns", "ranks", "waits"] ranksF) (d_memory_after : Def P w K mg base "memory_after" s_memory_after 1 ["turns", "memory", "can", "task"] memF) (m_Turns : DefC P w K mg base "Turns" 0 3 ["self", "ranked", "lent", "fair"] turnsInitF) {f : Addr} {fd : FuncData} (Fu : Fun K.K "law" "law" s_law f fd) : AtC P w K.K mg base (L2.CX P w) 6 f fd ["_law_script"] (spF K 1 (runF 23 b_law)) := by
  refine lawV Fu sc_law ?_
  rintro G rfl cdv s H E hr
  have hgd : (callerA.deeper (envOfC "law" (defScope s_law) s.heap.objs.size f cdv)).guards = some [] := rfl
  have hr66 : (callerA.deeper (envOfC "law" (defScope s_law) s.heap.objs.size f cdv)).units + 66 < cLine := by have := hr.un; omega
  exact (ds_cons (ds_set (i := 1) sc_law.nd (de_callDA d_box rfl (takes_of rfl rfl rfl rfl) (hr.mono (by decide)) (da_cons (de_var (pv 0)) (da_cons de_int da_nil)) (alen_cons (alen_cons alen_nil))))
    (ds_cons (ds_for (passes_of rfl) rfl (di_range1 rfl T.b_range (da_cons de_int da_nil)) (dg_name (i := 2) sc_law.nd) (ds_cons (ds_set (i := 3) sc_law.nd (de_add rfl de_int (de_callD 1 d_take rfl (takes_of rfl rfl rfl rfl) (hr.mono (by decide)) (da_cons (de_var (pv 1)) (da_cons de_int da_nil)) (alen_cons (alen_cons alen_nil)))))
    (ds_cons (ds_setLc (i := 4) (own := [("_law_task", 5)]) rfl sc_law.nd (di_range1 rfl T.b_range (da_cons (de_var (pv 3)) da_nil)) (blkOk_by (N := n_law) (sc := defScope s_law) (by decide +kernel)) (by decide) (fun _ _ _ _ _ => (dg_name (i := 5) sc_law.nd)) (fun _ _ _ _ _ => dts_nil) (fun _ _ _ _ _ => (de_callD 1 d_take rfl takes0 (hr.mono (by decide)) (da_cons (de_var (pv 1)) (da_cons de_int da_nil)) (alen_cons (alen_cons alen_nil)))) (sw_true rfl rfl rfl (by decide +kernel)))
    (ds_cons (ds_set (i := 6) sc_law.nd (de_lc (own := [("_law_task", 5)]) rfl sc_law.nd (di_range1 rfl T.b_range (da_cons (de_var (pv 3)) da_nil)) (blkOk_by (N := n_law) (sc := defScope s_law) (by decide +kernel)) (by decide) (fun _ _ _ _ _ => (dg_name (i := 5) sc_law.nd)) (fun _ _ _ _ _ => dts_nil) (fun _ _ _ _ _ => (de_if (dt_eq rfl hr.units (de_callD 1 d_take rfl takes0 (hr.mono (by decide)) (da_cons (de_var (pv 1)) (da_cons de_int da_nil)) (alen_cons (alen_cons alen_nil))) de_int) de_non (de_callD 1 d_take rfl takes0 (hr.mono (by decide)) (da_cons (de_var (pv 1)) (da_cons (de_var (pv 3)) da_nil)) (alen_cons (alen_cons alen_nil)))))))
    (ds_cons (ds_set (i := 6) sc_law.nd (de_lc (own := [("_law_task", 5), ("_law_other", 7)]) rfl sc_law.nd (di_enum rfl rfl T.b_enumerate (da_cons (de_var (pv 6)) da_nil)) (blkOk_by (N := n_law) (sc := defScope s_law) (by decide +kernel)) (by decide) (fun _ _ _ _ _ => (dg_tup rfl rfl (dgs_cons (dg_name (i := 5) sc_law.nd) (dgs_cons (dg_name (i := 7) sc_law.nd) dgs_nil)))) (fun _ _ _ _ _ => dts_nil) (fun _ _ _ _ _ => (de_if (dt_eq rfl hr.units (de_var (pv 7)) (de_var (pv 5))) de_non (de_var (pv 7))))))
    (ds_cons (ds_set (i := 8) sc_law.nd (de_lc (own := [("_law_task", 5)]) rfl sc_law.nd (di_range1 rfl T.b_range (da_cons (de_var (pv 3)) da_nil)) (blkOk_by (N := n_law) (sc := defScope s_law) (by decide +kernel)) (by decide) (fun _ _ _ _ _ => (dg_name (i := 5) sc_law.nd)) (fun _ _ _ _ _ => (dts_one (dt_w (dw_and (dt_is (de_ix rfl (de_var (pv 6)) (de_var (pv 5))) de_non) (dw_and1 (dt_gt (de_callD 1 d_take rfl takes0 (hr.mono (by decide)) (da_cons (de_var (pv 1)) (da_cons de_int da_nil)) (alen_cons (alen_cons alen_nil))) de_int)))))) (fun _ _ _ _ _ => (de_var (pv 5)))))
    (ds_cons (ds_asg (de_tup (da_cons (de_gt (de_callD 1 d_take rfl (takes_of rfl rfl rfl rfl) (hr.mono (by decide)) (da_cons (de_var (pv 1)) (da_cons de_int da_nil)) (alen_cons (alen_cons alen_nil))) de_int) (da_cons (de_callD 1 d_pick rfl (takes_of rfl rfl rfl rfl) (hr.mono (by decide)) (da_cons (de_var (pv 1)) (da_cons (de_lst (da_cons de_non (da_cons de_int (da_cons de_int (da_cons de_int da_nil))))) da_nil)) (alen_cons (alen_cons alen_nil))) da_nil))) (dg_tup rfl rfl (dgs_cons (dg_name (i := 9) sc_law.nd) (dgs_cons (dg_name (i := 10) sc_law.nd) dgs_nil))))
    (ds_cons (ds_setLc (i := 11) (own := [("_law_task", 5)]) rfl sc_law.nd (di_range1 rfl T.b_range (da_cons (de_var (pv 3)) da_nil)) (blkOk_by (N := n_law) (sc := defScope s_law) (by decide +kernel)) (by decide) (fun _ _ _ _ _ => (dg_name (i := 5) sc_law.nd)) (fun _ _ _ _ _ => dts_nil) (fun _ _ _ _ _ => (de_if (dt_is (de_var (pv 10)) de_non) de_int (de_callD 1 d_take rfl takes0 (hr.mono (by decide)) (da_cons (de_var (pv 1)) (da_cons de_int da_nil)) (alen_cons (alen_cons alen_nil))))) (sw_true rfl rfl rfl (by decide +kernel)))
    (ds_cons (ds_set (i := 12) sc_law.nd (de_tup (da_cons (de_var (pv 9)) (da_cons (de_and rfl (de_var (pv 9)) (de_one (de_eq rfl hr.units (de_callD 1 d_take rfl (takes_of rfl rfl rfl rfl) (hr.mono (by decide)) (da_cons (de_var (pv 1)) (da_cons de_int da_nil)) (alen_cons (alen_cons alen_nil))) de_int))) (da_cons (de_var (pv 10)) da_nil)))))
    (ds_cons (ds_set (i := 13) sc_law.nd (de_makeD m_Turns rfl flatE (takes_of rfl rfl rfl rfl) (hr.mono (by decide)) (da_cons (de_ix rfl (de_var (pv 12)) de_int) (da_cons (de_ix rfl (de_var (pv 12)) de_int) (da_cons (de_ix rfl (de_var (pv 12)) de_int) da_nil))) (alen_cons (alen_cons (alen_cons alen_nil))) rfl))
    (ds_cons (ds_set (i := 14) sc_law.nd (de_if (dt_tru rfl (de_ix rfl (de_var (pv 12)) de_int)) (de_callD 0 d_lentl rfl (takes_of rfl rfl rfl rfl) (hr.mono (by decide)) (da_cons (de_var (pv 4)) (da_cons (de_var (pv 6)) da_nil)) (alen_cons (alen_cons alen_nil))) (de_var (pv 4))))
    (ds_cons (ds_if (dt_ne rfl hr.units (de_repr rfl hgd hr66 rfl T.b_repr (da_cons (de_callD 0 d_ranks_now rfl (takes_of rfl rfl rfl rfl) (hr.mono (by decide)) (da_cons (de_var (pv 13)) (da_cons (de_tuple1 rfl rfl T.b_tuple (da_cons (de_var (pv 4)) da_nil)) (da_cons (de_tuple1 rfl rfl T.b_tuple (da_cons (de_var (pv 6)) da_nil)) da_nil))) (alen_cons (alen_cons (alen_cons alen_nil)))) da_nil)) (de_repr rfl hgd hr66 rfl T.b_repr (da_cons (de_tuple1 rfl rfl T.b_tuple (da_cons (de_lc (own := [("_law_rank", 15)]) rfl sc_law.nd (di_list rfl (de_var (pv 14))) (blkOk_by (N := n_law) (sc := defScope s_law) (by decide +kernel)) (by decide) (fun _ _ _ _ _ => (dg_name (i := 15) sc_law.nd)) (fun _ _ _ _ _ => dts_nil) (fun _ _ _ _ _ => (de_int1 rfl T.b_int (da_cons (de_var (pv 15)) da_nil)))) da_nil)) da_nil))) (ds_one (ds_ret de_bl)) ds_nil)
    (ds_cons (ds_if (dt_ne rfl hr.units (de_callKD (ks := ["waits", "ranks", "turns"]) 0 [2, 1, 0] d_ranks_now rfl flatE (takes_of rfl rfl rfl rfl) (hr.mono (by decide)) (dk_cons (de_tuple1 rfl rfl T.b_tuple (da_cons (de_var (pv 6)) da_nil)) (dk_cons (de_tuple1 rfl rfl T.b_tuple (da_cons (de_var (pv 4)) da_nil)) (dk_cons (de_var (pv 13)) dk_nil))) (alen_cons (alen_cons (alen_cons alen_nil))) (by decide) rfl (fun _ _ _ _ _ _ ws hl => match ws, hl with | [_, _, _], _ => rfl)) (de_tuple1 rfl rfl T.b_tuple (da_cons (de_var (pv 14)) da_nil))) (ds_one (ds_ret de_bl)) ds_nil)
    (ds_cons (ds_set (i := 16) sc_law.nd (de_callD 0 d_chosen rfl (takes_of rfl rfl rfl rfl) (hr.mono (by decide)) (da_cons (de_var (pv 12)) (da_cons (de_var (pv 4)) (da_cons (de_var (pv 8)) (da_cons (de_var (pv 6)) (da_cons (de_var (pv 11)) da_nil))))) (alen_cons (alen_cons (alen_cons (alen_cons (alen_cons alen_nil)))))))
    (ds_cons (ds_if (dt_ne rfl hr.units (de_repr rfl hgd hr66 rfl T.b_repr (da_cons (de_callD 0 d_may rfl (takes_of rfl rfl rfl rfl) (hr.mono (by decide)) (da_cons (de_var (pv 13)) (da_cons (de_tuple1 rfl rfl T.b_tuple (da_cons (de_var (pv 4)) da_nil)) (da_cons (de_tuple1 rfl rfl T.b_tuple (da_cons (de_var (pv 8)) da_nil)) (da_cons (de_tuple1 rfl rfl T.b_tuple (da_cons (de_var (pv 6)) da_nil)) (da_cons (de_tuple1 rfl rfl T.b_tuple (da_cons (de_var (pv 11)) da_nil)) da_nil))))) (alen_cons (alen_cons (alen_cons (alen_cons (alen_cons alen_nil)))))) da_nil)) (de_repr rfl hgd hr66 rfl T.b_repr (da_cons (de_tuple1 rfl rfl T.b_tuple (da_cons (de_var (pv 16)) da_nil)) da_nil))) (ds_one (ds_ret de_bl)) ds_nil)
    (ds_cons (ds_par (i := 17) (j := 18) rfl sc_law.nd (da_cons (de_tuple1 rfl rfl T.b_tuple (da_cons (de_var (pv 6)) da_nil)) (da_cons (de_tuple1 rfl rfl T.b_tuple (da_cons (de_var (pv 11)) da_nil)) da_nil)) (by decide))
    (ds_cons (ds_set (i := 19) sc_law.nd (de_callKD (ks := ["memory", "waits", "can", "ranks", "turns"]) 0 [4, 3, 2, 1, 0] d_may rfl flatE (takes_of rfl rfl rfl rfl) (hr.mono (by decide)) (dk_cons (de_var (pv 18)) (dk_cons (de_var (pv 17)) (dk_cons (de_tuple1 rfl rfl T.b_tuple (da_cons (de_var (pv 8)) da_nil)) (dk_cons (de_tuple1 rfl rfl T.b_tuple (da_cons (de_var (pv 4)) da_nil)) (dk_cons (de_var (pv 13)) dk_nil))))) (alen_cons (alen_cons (alen_cons (alen_cons (alen_cons alen_nil))))) (by decide) rfl (fun _ _ _ _ _ _ ws hl => match ws, hl with | [_, _, _, _, _], _ => rfl)))
    (ds_cons (ds_if (dt_ne rfl hr.units (de_var (pv 19)) (de_tuple1 rfl rfl T.b_tuple (da_cons (de_var (pv 16)) da_nil))) (ds_one (ds_ret de_bl)) ds_nil)
    (ds_one (ds_if (dt_ne rfl hr.units (de_var (pv 8)) (de_lst da_nil)) (ds_cons (ds_set (i := 5) sc_law.nd (de_callD 1 d_pick rfl (takes_of rfl rfl rfl rfl) (hr.mono (by decide)) (da_cons (de_var (pv 1)) (da_cons (de_var (pv 8)) da_nil)) (alen_cons (alen_cons alen_nil))))
    (ds_cons (ds_setLc (i := 20) (own := [("_law_at", 21), ("_law_n", 22)]) rfl sc_law.nd (di_enum rfl rfl T.b_enumerate (da_cons (de_var (pv 11)) da_nil)) (blkOk_by (N := n_law) (sc := defScope s_law) (by decide +kernel)) (by decide) (fun _ _ _ _ _ => (dg_tup rfl rfl (dgs_cons (dg_name (i := 21) sc_law.nd) (dgs_cons (dg_name (i := 22) sc_law.nd) dgs_nil)))) (fun _ _ _ _ _ => dts_nil) (fun _ _ _ _ _ => (de_if (dt_w (dw_and (dt_in rfl (de_var (pv 21)) (de_var (pv 8))) (dw_and1 (dt_ne rfl hr.units (de_var (pv 21)) (de_var (pv 5)))))) (de_add rfl (de_var (pv 22)) de_int) de_int)) (sw_true rfl rfl rfl (by decide +kernel)))
    (ds_cons (ds_set (i := 20) sc_law.nd (de_if (dt_is (de_var (pv 10)) de_non) (de_var (pv 11)) (de_var (pv 20))))
    (ds_cons (ds_if (dt_ne rfl hr.units (de_callD 0 d_memory_after rfl (takes_of rfl rfl rfl rfl) (hr.mono (by decide)) (da_cons (de_var (pv 13)) (da_cons (de_tuple1 rfl rfl T.b_tuple (da_cons (de_var (pv 11)) da_nil)) (da_cons (de_tuple1 rfl rfl T.b_tuple (da_cons (de_var (pv 8)) da_nil)) (da_cons (de_var (pv 5)) da_nil)))) (alen_cons (alen_cons (alen_cons (alen_cons alen_nil))))) (de_tuple1 rfl rfl T.b_tuple (da_cons (de_var (pv 20)) da_nil))) (ds_one (ds_ret de_bl)) ds_nil)
    (ds_one (ds_if (dt_ne rfl hr.units (de_callKD (ks := ["task", "can", "memory", "turns"]) 0 [3, 2, 1, 0] d_memory_after rfl flatE (takes_of rfl rfl rfl rfl) (hr.mono (by decide)) (dk_cons (de_var (pv 5)) (dk_cons (de_tuple1 rfl rfl T.b_tuple (da_cons (de_var (pv 8)) da_nil)) (dk_cons (de_tuple1 rfl rfl T.b_tuple (da_cons (de_var (pv 11)) da_nil)) (dk_cons (de_var (pv 13)) dk_nil)))) (alen_cons (alen_cons (alen_cons (alen_cons alen_nil)))) (by decide) rfl (fun _ _ _ _ _ _ ws hl => match ws, hl with | [_, _, _, _], _ => rfl)) (de_tuple1 rfl rfl T.b_tuple (da_cons (de_var (pv 20)) da_nil))) (ds_one (ds_ret de_bl)) ds_nil)))))) ds_nil))))))))))))))))))))
    (ds_one (ds_ret de_bl))))
end K67

namespace VL
open PySem L2
abbrev nD (k : Nat) : D := .int (k : Int)
def oD : Option Nat → D
  | none => .non
  | some k => nD k
theorem atI_nat {α : Type} {xs : List α} {k : Nat} {x : α} (h : xs[k]? = some x) : atI xs (k : Int) = some x := by
  have hk := (List.getElem?_eq_some_iff.mp h).1
  unfold atI ixN
  rw [if_pos (by omega), if_pos (by omega)]
  simpa using h
theorem atI_map {α β : Type} {f : α → β} {xs : List α} {k : Nat} {x : α} (h : xs[k]? = some x) : atI (xs.map f) (k : Int) = some (f x) := atI_nat (by rw [List.getElem?_map, h]; rfl)
theorem gEqB_same {neg : Bool} {cs : List Cell} {p : D} (h1 : plain p = true) (h2 : SeqAt.shaped (py p) = true) (hn : norm cs p = p) : gEqB neg cs p p = .ok (.bl (!neg)) cs := by
  have e : PyData.eqv (py p) (py p) = true := SeqAt.eqv_refl _ (by
    have h3 := h2
    unfold SeqAt.shaped at h3
    rw [Bool.and_eq_true] at h3
    exact h3.1)
  unfold gEqB
  simp only [hn, h1, h2, e]
  cases neg <;> rfl
theorem plains_int : ∀ {ds : List D}, (∀ d ∈ ds, ∃ i, d = D.int i) → plains ds = true
  | [], _ => rfl
  | d :: ds, h => by
    obtain ⟨i, rfl⟩ := h d List.mem_cons_self
    have := plains_int (ds := ds) (fun d hd => h d (List.mem_cons_of_mem _ hd))
    simp [plains, plain, this]
theorem lay_int : ∀ {ds : List D}, (∀ d ∈ ds, ∃ i, d = D.int i) → PyData.canLayAll0 (pys ds) = true ∧ PyData.depthAll (pys ds) = 0
  | [], _ => ⟨rfl, rfl⟩
  | d :: ds, h => by
    obtain ⟨i, rfl⟩ := h d List.mem_cons_self
    obtain ⟨h1, h2⟩ := lay_int (fun d hd => h d (List.mem_cons_of_mem _ hd))
    simp [pys, py, PyData.canLayAll0, PyData.canLay0, PyData.depthAll, PyData.depth, h1, h2]
theorem eqT_same {neg : Bool} {cs : List Cell} {ds : List D} (h : ∀ d ∈ ds, ∃ i, d = D.int i) : gEqB neg cs (.tup ds) (.tup ds) = .ok (.bl (!neg)) cs := by
  obtain ⟨h1, h2⟩ := lay_int h
  refine gEqB_same (plains_int h) ?_ rfl
  simp [SeqAt.shaped, py, PyData.canLay0, PyData.depth, h1, h2]
theorem nD_ints {l : List Nat} : ∀ d ∈ l.map nD, ∃ i, d = D.int i := fun d hd => by
  obtain ⟨k, _, rfl⟩ := List.mem_map.mp hd
  exact ⟨_, rfl⟩
def natsOf : List D → Option (List Nat)
  | [] => some []
  | .int i :: r => match i with
    | .ofNat k => (natsOf r).map (k :: ·)
    | _ => none
  | _ => none
theorem natsOf_eq : ∀ {ds : List D} {l : List Nat}, natsOf ds = some l → ds = l.map nD
  | [], l, h => by cases h; rfl
  | .int (.ofNat k) :: r, l, h => by
    have h : (natsOf r).map (k :: ·) = some l := h
    cases e : natsOf r with
    | none => rw [e] at h; cases h
    | some m =>
      rw [e] at h
      cases h
      rw [natsOf_eq e]
      rfl
  | .int (.negSucc k) :: r, l, h => by cases h
  | .non :: r, l, h => by cases h
  | .bl _ :: r, l, h => by cases h
  | .str _ :: r, l, h => by cases h
  | .tup _ :: r, l, h => by cases h
  | .lst _ :: r, l, h => by cases h
  | .frl _ :: r, l, h => by cases h
  | .obj _ _ _ :: r, l, h => by cases h
  | .loc _ :: r, l, h => by cases h
/-- all lists of the length k over xs -/
def allOf {α : Type} (xs : List α) : Nat → List (List α)
  | 0 => [[]]
  | k + 1 => xs.flatMap fun x => (allOf xs k).map (x :: ·)
theorem mem_allOf {α : Type} {xs : List α} : ∀ {l : List α}, (∀ x ∈ l, x ∈ xs) → l ∈ allOf xs l.length
  | [], _ => List.mem_singleton.mpr rfl
  | x :: l, h => List.mem_flatMap.mpr ⟨x, h x List.mem_cons_self, List.mem_map.mpr ⟨l, mem_allOf (fun y hy => h y (List.mem_cons_of_mem _ hy)), rfl⟩⟩
/-- a loop as a fold -/
theorem forL_fold {α β : Type} {g : Gt} {body : Sx} {f : β → D} {A : α → S → Prop} {step : α → β → α} : ∀ (xs : List β) (a : α) (st : S), A a st → (∀ x ∈ xs, ∀ a st, A a st → ∃ st1 st2, g (f x) st = some st1 ∧ body st1 = .nx st2 ∧ A (step a x) st2) →
    ∃ st', forL g body keepAll (xs.map f) st = .nx st' ∧ A (xs.foldl step a) st'
  | [], a, st, h, _ => ⟨st, by simp [forL, keepAll], h⟩
  | x :: xs, a, st, h, ht => by
    obtain ⟨st1, st2, e1, e2, h2⟩ := ht x List.mem_cons_self a st h
    obtain ⟨st3, e3, h3⟩ := forL_fold xs (step a x) st2 h2 (fun y hy => ht y (List.mem_cons_of_mem _ hy))
    refine ⟨st3, ?_, h3⟩
    rw [List.map_cons]
    unfold forL
    simp only [keepAll, if_true, e1, e2]
    exact e3
theorem enumD_map {α : Type} {f : α → D} {xs : List α} : enumD (xs.map f) = xs.zipIdx.map fun p => .tup [nD p.2, f p.1] := by
  unfold enumD
  rw [List.mapIdx_eq_zipIdx_map, List.zipIdx_map, List.map_map]
  rfl
theorem picks_all {α : Type} {P : α → Prop} {R : D → Option D → Prop} {f : α → D} (h0 : ∀ d, ¬ R d none) (h1 : ∀ d y, R d (some y) → ∃ x, P x ∧ y = f x) : ∀ {ds ys : List D}, Picks R ds ys → ∃ l : List α, l.length = ds.length ∧ (∀ x ∈ l, P x) ∧ ys = l.map f
  | _, _, .nil => ⟨[], rfl, fun _ h => (List.not_mem_nil h).elim, rfl⟩
  | _, _, .skip r _ => (h0 _ r).elim
  | _, _, .take r p => by
    obtain ⟨l, a1, a2, a3⟩ := picks_all h0 h1 p
    obtain ⟨x, b1, b2⟩ := h1 _ _ r
    refine ⟨x :: l, by simp [a1], fun y hy => ?_, by simp [a3, b2]⟩
    rcases List.mem_cons.mp hy with rfl | hy
    · exact b1
    · exact a2 y hy
theorem picks_some {α : Type} {P : α → Prop} {R : D → Option D → Prop} {f : α → D} (h1 : ∀ d y, R d (some y) → ∃ x, P x ∧ y = f x) : ∀ {ds ys : List D}, Picks R ds ys → ∃ l : List α, l.length ≤ ds.length ∧ (∀ x ∈ l, P x) ∧ ys = l.map f
  | _, _, .nil => ⟨[], Nat.le_refl _, fun _ h => (List.not_mem_nil h).elim, rfl⟩
  | _, _, .skip r p => by
    obtain ⟨l, a1, a2, a3⟩ := picks_some h1 p
    exact ⟨l, by simp; omega, a2, a3⟩
  | _, _, .take r p => by
    obtain ⟨l, a1, a2, a3⟩ := picks_some h1 p
    obtain ⟨x, b1, b2⟩ := h1 _ _ r
    refine ⟨x :: l, by simp; omega, fun y hy => ?_, by simp [a3, b2]⟩
    rcases List.mem_cons.mp hy with rfl | hy
    · exact b1
    · exact a2 y hy
theorem rangeD_nat {n : Nat} : rangeD 0 n = (List.range n).map nD := by
  unfold rangeD
  simp
theorem intsOf_nD : ∀ {l : List Nat}, intsOf (l.map nD) = some (l.map fun k : Nat => (k : Int))
  | [] => rfl
  | k :: l => by
    show (intsOf (l.map nD)).map _ = _
    rw [intsOf_nD (l := l)]
    rfl
end VL

namespace K67
open PySem L2 PyProof.Rows VL
/-! ### small domains, by looking at all of them -/
def hangC (ws : List (Option Nat)) (t : Nat) : Bool := match hangF [.tup (ws.map oD), nD t] [], hungF [.lst (ws.map oD), nD t] [] with
  | .ok (.tup a) [], .ok (.lst b) [] => (match natsOf a, natsOf b with
    | some l, some m => l == m && l.all (fun k => decide (k < ws.length))
    | _, _ => false)
  | _, _ => false
def hangM (ws : List (Option Nat)) (t : Nat) : List Nat := match hangF [.tup (ws.map oD), nD t] [] with
  | .ok (.tup a) _ => (natsOf a).getD []
  | _ => []
def optsN (n : Nat) : List (Option Nat) := none :: (List.range n).map some
theorem hangC1 : ((List.range 5).all fun n => (allOf (optsN n) n).all fun ws => (List.range n).all fun t => hangC ws t) = true := by decide +kernel
theorem hang_ok {ws : List (Option Nat)} {t : Nat} (h4 : ws.length < 5) (hw : ∀ k, some k ∈ ws → k < ws.length) (ht : t < ws.length) :
    hangF [.tup (ws.map oD), nD t] [] = .ok (.tup ((hangM ws t).map nD)) [] ∧ hungF [.lst (ws.map oD), nD t] [] = .ok (.lst ((hangM ws t).map nD)) [] ∧ ∀ k ∈ hangM ws t, k < ws.length := by
  have h := List.all_eq_true.mp (List.all_eq_true.mp (List.all_eq_true.mp hangC1 ws.length (List.mem_range.mpr h4)) ws (mem_allOf fun x hx => by
    unfold optsN
    cases x with
    | none => exact List.mem_cons_self
    | some k => exact List.mem_cons_of_mem _ (List.mem_map.mpr ⟨k, List.mem_range.mpr (hw k hx), rfl⟩))) t (List.mem_range.mpr ht)
  unfold hangC at h
  split at h
  · rename_i a b e1 e2
    split at h
    · rename_i l m e3 e4
      have q1 := natsOf_eq e3
      have q2 := natsOf_eq e4
      rw [Bool.and_eq_true, List.all_eq_true] at h
      have q3 : l = m := by simpa using h.1
      have e : hangM ws t = l := by
        unfold hangM
        rw [e1]
        simp [e3]
      subst q3 q1 q2
      rw [e, e1, e2]
      exact ⟨rfl, rfl, fun k hk => by simpa using h.2 k hk⟩
    · cases h
  · cases h
def reprC (l : List Nat) : Bool := showOk (.tup (l.map nD)) && SeqAt.shaped (.str (py (.tup (l.map nD))).shown)
theorem reprC1 : ((List.range 5).all fun n => (allOf (List.range 4) n).all reprC) = true := by decide +kernel
theorem repr_ok {l : List Nat} {cs : List Cell} (h4 : l.length < 5) (h : ∀ k ∈ l, k < 4) : hRepr cs [.tup (l.map nD)] = .ok (.str (py (.tup (l.map nD))).shown) cs ∧ ∀ neg, gEqB neg cs (.str (py (.tup (l.map nD))).shown) (.str (py (.tup (l.map nD))).shown) = .ok (.bl (!neg)) cs := by
  have q := List.all_eq_true.mp (List.all_eq_true.mp reprC1 l.length (List.mem_range.mpr h4)) l (mem_allOf fun x hx => List.mem_range.mpr (h x hx))
  unfold reprC at q
  rw [Bool.and_eq_true] at q
  refine ⟨?_, fun neg => gEqB_same rfl q.2 rfl⟩
  show (if showOk (norm cs (.tup (l.map nD))) = true then Out.ok _ cs else .no) = _
  rw [show norm cs (.tup (l.map nD)) = .tup (l.map nD) from rfl, if_pos q.1]
end K67

namespace K67
open PySem L2 PyProof.Rows VL
abbrev bx (g s : Int) : List Cell := [.lst [.int g, .int s]]
theorem take_ok (g s : Int) (m : Nat) (h0 : 0 < m) (h1 : m < 1073741824) : ∃ (v : Nat) (g' s' : Int), takeF [.loc 0, nD m] (bx g s) = .ok (nD v) (bx g' s') ∧ v < m := by
  have h0' : (0 : Int) < m := by omega
  have h1' : (m : Int) < 1073741824 := by omega
  have c1 : ∀ x, cMod x m = true := fun x => by simp [cMod]; omega
  have c2 : cDiv g m = true := by simp [cDiv]; omega
  have c3 : ∀ x, cMod x 2147483563 = true := fun x => rfl
  have c4 : ∀ x, cMod x 2147483629 = true := fun x => rfl
  have c5 : ∀ x, cDiv x 8191 = true := fun x => rfl
  have fin : ∀ x : Int, nD (x % m).toNat = .int (x % m) := fun x => by
    show D.int _ = _
    rw [Int.toNat_of_nonneg (Int.emod_nonneg _ (by omega))]
  have lt : ∀ x : Int, (x % m).toNat < m := fun x => by
    have := Int.emod_lt_of_pos x h0'
    have := Int.emod_nonneg x (b := m) (by omega)
    omega
  by_cases hg : 0 < g
  · refine ⟨(g % m).toNat, g / m, s, ?_, lt _⟩
    rw [fin]
    simp [takeF, trimF, runF, b_take, sSeq, sIf, tCmp', eOp, eVar, eC, thenS, Out.bind, gGt, gOrd, gIx, seqOf, lstOf, startD, atI, ixN, hg, sAsg, gMod, gInt, eB, aCons, aNil, hInt, asg, gNm, c1, c2, sSetIx, setIx, gFdiv, sRet, outD, below, belowC, belows]
  · refine ⟨((((s * 40014 + 73) % 2147483563 * 2147483647 + (((s * 40014 + 73) % 2147483563 * 40692 + 4513) % 2147483629 + 1)) / 8191) % m).toNat, g, ((s * 40014 + 73) % 2147483563 * 40692 + 4513) % 2147483629 + 1, ?_, lt _⟩
    rw [fin]
    simp [takeF, trimF, runF, b_take, sSeq, sIf, tCmp', eOp, eVar, eC, thenS, Out.bind, gGt, gOrd, gIx, seqOf, lstOf, startD, atI, ixN, hg, sAsg, gMod, gInt, eB, aCons, aNil, hInt, asg, gNm, c1, c2, sSetIx, setIx, gFdiv, sRet, outD, below, belowC, belows, gAdd, gMul, cMul, sNil, c3, c4, c5]
theorem nm1 : ¬ (("ranked" : Str) = "lent") := by decide +kernel
theorem nm2 : ¬ (("ranked" : Str) = "fair") := by decide +kernel
theorem nm3 : ¬ (("lent" : Str) = "fair") := by decide +kernel
theorem isb (cs : List Cell) (b : Bool) : gIsi "bool" cs (.bl b) = .ok (.bl true) cs := rfl
theorem isnum1 (k : Nat) : isNumF [nD k] [] = .ok (.bl true) [] := by
  have e1 : gIsi "int" [] (nD k) = .ok (.bl true) [] := rfl
  have e2 : gIsi "bool" [] (nD k) = .ok (.bl false) [] := rfl
  have e3 : isIntF [nD k] [] = .ok (.bl true) [] := by
    simp [isIntF, trimF, runF, b_is_integer, sRet, eAnd, eUn, eVar, startD, Out.bind, e1, e2, truD, eNot, thenS, outD, below]
  have e4 : callV 0 isIntF [nD k] [] = .ok (.bl true) [] := by
    simp [callV, lendD, e3, belows, below]
  simp [isNumF, trimF, runF, b_is_number, sRet, eAnd, eVar, startD, Out.bind, e4, truD, eCall, aCons, aNil, eOp, eC, gGe, gOrd, thenS, outD, below]
theorem isnum2 (k : Nat) (cs : List Cell) : callV 0 isNumF [nD k] cs = .ok (.bl true) cs := by
  simp [callV, lendD, isnum1, belows, below]
theorem turns_ok (ra le : Bool) (fa : Option Nat) (h1 : le = true → ra = true) (h2 : ∀ k, fa = some k → 0 < k) (g s : Int) : makeD 0 turnsInitF [.bl ra, .bl le, oD fa] (bx g s) = .ok (.obj 0 ["ranked", "lent", "fair"] [.bl ra, .bl le, oD fa]) (bx g s) := by
  have hr : (le && !ra) = false := by cases le <;> simp_all
  have t1 : (if le = true then Out.ok (!ra) [Cell.lst [D.int g, D.int s], Cell.ins 0 [] []] else Out.ok false [Cell.lst [D.int g, D.int s], Cell.ins 0 [] []]) = Out.ok false [Cell.lst [D.int g, D.int s], Cell.ins 0 [] []] := by cases le <;> simp_all
  have hb : ∀ n, below n (oD fa) = true := fun n => by cases fa <;> rfl
  cases fa with
  | none =>
    simp [oD, makeD, turnsInitF, runF, b_Turns_init, sSeq, sIf, tNot', tTru, eUn, eVar, startD, Out.bind, isb, truD, thenS, sNil, tOr', tAnd', t1, tCmp', eOp, eC, gIs, isNon, sSetFld, setFld, putD, nm1, nm2, nm3, lastIns, belows, below, belowC]
  | some k =>
    have hk : PyData.eqv (.int (k : Int)) (.int 0) = false := by
      have := h2 k rfl
      simp [PyData.eqv]
      omega
    have e : gEqB false [Cell.lst [D.int g, D.int s], Cell.ins 0 [] []] (nD k) (.int 0) = .ok (.bl false) [Cell.lst [D.int g, D.int s], Cell.ins 0 [] []] := by
      simp [gEqB, norm, VL.plain, py, SeqAt.shaped, PyData.canLay0, PyData.depth, hk]
    simp [oD, makeD, turnsInitF, runF, b_Turns_init, sSeq, sIf, tNot', tTru, eUn, eVar, startD, Out.bind, isb, truD, thenS, sNil, tOr', tAnd', t1, tCmp', eOp, eC, gIs, isNon, sSetFld, setFld, putD, nm1, nm2, nm3, lastIns, belows, below, belowC, eCall, aCons, aNil, isnum2, e]

/-! ### the ranks that are lent -/
def maxN (x r : Nat) : Nat := if r > x then r else x
def lentStep (r : List Nat) (ws : List (Option Nat)) (a : List Nat) (t : Nat) : List Nat := (hangM ws t).foldl (fun a o => a.set o (maxN (a.getD o 0) (r.getD t 0))) a
def lentM (r : List Nat) (ws : List (Option Nat)) : List Nat := (List.range r.length).foldl (lentStep r ws) r
theorem enumD_nat {r : List Nat} : enumD (r.map nD) = (List.range r.length).map fun t => .tup [nD t, nD (r.getD t 0)] := by
  unfold enumD
  refine List.ext_getElem (by simp) fun i h1 h2 => ?_
  simp at h1
  simp [h1]
theorem ixN_nat {n k : Nat} (h : k < n) : ixN n (k : Int) = some k := by
  unfold ixN
  rw [if_pos (by omega), if_pos (by omega)]
  simp
theorem atI_nD {a : List Nat} {o : Nat} (h : o < a.length) : atI (a.map nD) (o : Int) = some (nD (a.getD o 0)) := atI_map (by simp [h])
theorem max_nD {x r : Nat} {cs : List Cell} : hMax cs [nD x, nD r] = .ok (nD (maxN x r)) cs := by
  show Out.ok (D.int (if (r : Int) > (x : Int) then (r : Int) else x)) cs = .ok (D.int ((maxN x r : Nat) : Int)) cs
  unfold maxN
  by_cases h : r > x
  · rw [if_pos (by omega), if_pos h]
  · rw [if_neg (by omega), if_neg h]
theorem fold_len {r : List Nat} {f : List Nat → Nat → Nat} : ∀ {l : List Nat} {a : List Nat}, (l.foldl (fun a o => a.set o (f a o)) a).length = a.length
  | [], a => rfl
  | o :: l, a => by
    rw [List.foldl_cons, fold_len (r := r)]
    simp
theorem lentM_len {r : List Nat} {ws : List (Option Nat)} : (lentM r ws).length = r.length := by
  unfold lentM
  have : ∀ (l : List Nat) (a : List Nat), (l.foldl (lentStep r ws) a).length = a.length := by
    intro l
    induction l with
    | nil => intro a; rfl
    | cons t l ih =>
      intro a
      rw [List.foldl_cons, ih]
      exact fold_len (r := r)
  exact this _ _
theorem lentM_lt {r : List Nat} {ws : List (Option Nat)} {n : Nat} (h : ∀ k ∈ r, k < n) : ∀ k ∈ lentM r ws, k < n := by
  have g0 : ∀ (a : List Nat) (o : Nat), (∀ k ∈ a, k < n) → a.getD o 0 < n ∨ a.getD o 0 = 0 := fun a o ha => by
    by_cases q : o < a.length
    · left
      have : a.getD o 0 = a[o] := by simp [q]
      rw [this]
      exact ha _ (List.getElem_mem q)
    · right
      simp [Nat.le_of_not_lt q]
  unfold lentM
  have inner : ∀ (l : List Nat) (t : Nat) (a : List Nat), (∀ k ∈ a, k < n) → ∀ k ∈ l.foldl (fun a o => a.set o (maxN (a.getD o 0) (r.getD t 0))) a, k < n := by
    intro l t
    induction l with
    | nil => intro a ha; exact ha
    | cons o l ih =>
      intro a ha
      rw [List.foldl_cons]
      refine ih _ fun k hk => ?_
      rcases List.mem_or_eq_of_mem_set hk with hk | rfl
      · exact ha k hk
      · have h1 := g0 a o ha
        have h2 := g0 r t h
        have hn : 0 < n := by
          cases a with
          | nil => simp at hk
          | cons x a => have := ha x List.mem_cons_self; omega
        unfold maxN
        split <;> omega
  have : ∀ (l : List Nat) (a : List Nat), (∀ k ∈ a, k < n) → ∀ k ∈ l.foldl (lentStep r ws) a, k < n := by
    intro l
    induction l with
    | nil => intro a ha; exact ha
    | cons t l ih =>
      intro a ha
      rw [List.foldl_cons]
      exact ih _ (inner _ _ _ ha)
  exact this _ _ h
theorem set_nD {a : List Nat} {o x : Nat} : (a.map nD).set o (nD x) = (a.set o x).map nD := by
  rw [List.map_set]
theorem belows_nD {n : Nat} {l : List Nat} : belows n (l.map nD) = true := belows_of fun x hx => by
  obtain ⟨k, _, rfl⟩ := List.mem_map.mp hx
  rfl
theorem belows_oD {n : Nat} {l : List (Option Nat)} : belows n (l.map oD) = true := belows_of fun x hx => by
  obtain ⟨k, _, rfl⟩ := List.mem_map.mp hx
  cases k <;> rfl
theorem noLsts_nD : ∀ {l : List Nat}, noLsts (l.map nD) = true
  | [] => rfl
  | k :: l => by
    show (noLst (nD k) && noLsts (l.map nD)) = true
    rw [noLsts_nD]
    rfl
abbrev tO (ra le : Bool) (fa : Option Nat) : D := .obj 0 ["ranked", "lent", "fair"] [.bl ra, .bl le, oD fa]
theorem fld1 (cs : List Cell) (ra le : Bool) (fa : Option Nat) : gFldC 0 "ranked" cs (tO ra le fa) = .ok (.bl ra) cs := by
  simp [gFldC, lookD]
theorem fld2 (cs : List Cell) (ra le : Bool) (fa : Option Nat) : gFldC 0 "lent" cs (tO ra le fa) = .ok (.bl le) cs := by
  simp [gFldC, lookD, Ne.symm nm1]
theorem fld3 (cs : List Cell) (ra le : Bool) (fa : Option Nat) : gFldC 0 "fair" cs (tO ra le fa) = .ok (oD fa) cs := by
  simp [gFldC, lookD, Ne.symm nm2, Ne.symm nm3]
end K67

namespace K67
open PySem L2 PyProof.Rows VL
structure Ws (ws : List (Option Nat)) : Prop where
  four : ws.length < 5
  low : ∀ k, some k ∈ ws → k < ws.length
theorem fold_len' {f : List Nat → Nat → Nat} {l : List Nat} {a : List Nat} : (l.foldl (fun a o => a.set o (f a o)) a).length = a.length := fold_len (r := [])
theorem sFor_of {src : Ix} {g : Gt} {body : Sx} {st : S} {ds : List D} {c1 : List Cell} {o : SOut} (h : src st = .ok (ds, keepAll) c1) (h2 : forL g body keepAll ds ⟨st.env, c1⟩ = o) : sFor src g body st = o := by
  unfold sFor
  rw [h]
  exact h2
theorem iT_of {f : Ex} {st : S} {ds : List D} {c1 : List Cell} (h : f st = .ok (.tup ds) c1) : iT f st = .ok (ds, keepAll) c1 := by
  simp only [iT, h, Out.bind]
theorem iL_of {f : Ex} {st : S} {ds : List D} {c1 : List Cell} (h : f st = .ok (.lst ds) c1) : iL f st = .ok (ds, keepAll) c1 := by
  simp only [iL, h, Out.bind]
theorem iEnT_of {f : Ex} {st : S} {ds : List D} {c1 : List Cell} (h : f st = .ok (.tup ds) c1) : iEnT (aCons f aNil) st = .ok (enumD ds, keepAll) c1 := by
  simp only [iEnT, aCons, aNil, h, Out.bind]
theorem iEn_of {f : Ex} {st : S} {ds : List D} {c1 : List Cell} (h : f st = .ok (.lst ds) c1) : iEn (aCons f aNil) st = .ok (enumD ds, keepAll) c1 := by
  simp only [iEn, aCons, aNil, h, Out.bind]
theorem runF_rt {n : Nat} {body : Sx} {ds : List D} {cs : List Cell} {d : D} {st : S} (h : body ⟨startD n ds, cs⟩ = .rt d st) : runF n body ds cs = .ok d st.cs := by
  unfold runF
  rw [h]
theorem trimF_of {fn : Fn} {ds : List D} {cs cs' : List Cell} {d d' : D} (h : fn ds cs = .ok d cs') (h1 : (cs'.take cs.length).all (belowC cs.length) = true) (h2 : outD cs.length cs' d = some d') : trimF fn ds cs = .ok d' (cs'.take cs.length) := by
  unfold trimF
  rw [h]
  show (if (cs'.take cs.length).all (belowC cs.length) = true then _ else _) = _
  rw [if_pos h1]
  show (match outD cs.length cs' d with
    | some d' => Out.ok d' (cs'.take cs.length)
    | none => .no) = _
  rw [h2]
theorem outD_loc {ds : List D} {cs : List Cell} (h : belows 0 ds = true) : outD 0 (.lst ds :: cs) (.loc 0) = some (.lst ds) := by
  show (if belows 0 ds = true then some (D.lst ds) else none) = _
  rw [if_pos h]
theorem outD_low {n : Nat} {cs : List Cell} {d : D} (h : below n d = true) (hl : ∀ m, d ≠ .loc m) : outD n cs d = some d := by
  cases d with
  | loc m => exact absurd rfl (hl m)
  | _ =>
    unfold outD
    exact if_pos h
theorem iR1_nat {f : Ex} {st : S} {n : Nat} {c1 : List Cell} (h : f st = .ok (nD n) c1) (hn : n < 1000) : iR1 (aCons f aNil) st = .ok ((List.range n).map nD, keepAll) c1 := by
  have h1 : decide (-(2 ^ 62) ≤ (n : Int)) = true := decide_eq_true (by omega)
  have h2 : decide ((n : Int) < 2 ^ 62) = true := decide_eq_true (by omega)
  simp only [iR1, aCons, aNil, h, Out.bind]
  rw [h1, h2, ← rangeD_nat]
  rfl
theorem call_hang {ws : List (Option Nat)} {t : Nat} (h : Ws ws) (ht : t < ws.length) (cs : List Cell) : callV 0 hangF [.tup (ws.map oD), nD t] cs = .ok (.tup ((hangM ws t).map nD)) cs := by
  obtain ⟨h1, _, _⟩ := hang_ok h.four h.low ht
  simp [callV, lendD, belows, below, belows_oD]
  rw [h1]
  simp
theorem call_hung {ws : List (Option Nat)} {t : Nat} (h : Ws ws) (ht : t < ws.length) (cs : List Cell) : callV 0 hungF [.lst (ws.map oD), nD t] cs = .ok (.lst ((hangM ws t).map nD)) cs := by
  obtain ⟨_, h1, _⟩ := hang_ok h.four h.low ht
  simp [callV, lendD, belows, below, belows_oD]
  rw [h1]
  simp
theorem ranks_lent {ra : Bool} {fa : Option Nat} {r : List Nat} {ws : List (Option Nat)} (h : Ws ws) (hl : r.length = ws.length) : ranksF [tO ra true fa, .tup (r.map nD), .tup (ws.map oD)] [] = .ok (.tup ((lentM r ws).map nD)) [] := by
  have go : ∃ e4 e5 e6, sFor (iEnT (aCons (eVar 1) aNil)) (gTp 2 (gsCons (gNm 4) (gsCons (gNm 5) gsNil))) (sFor (iT (eCall 0 hangF (aCons (eVar 2) (aCons (eVar 4) aNil)))) (gNm 6) (sSetIx (eB hMax (aCons (eOp gIx (eVar 3) (eVar 6)) (aCons (eVar 5) aNil))) (eVar 3) (eVar 6)))
      ⟨[some (tO ra true fa), some (.tup (r.map nD)), some (.tup (ws.map oD)), some (.loc 0), none, none, none], [.lst (r.map nD)]⟩ = .nx ⟨[some (tO ra true fa), some (.tup (r.map nD)), some (.tup (ws.map oD)), some (.loc 0), e4, e5, e6], [.lst ((lentM r ws).map nD)]⟩ := by
    obtain ⟨st', e1, ⟨e4, e5, e6, e2⟩, _⟩ := forL_fold (A := fun (a : List Nat) st => (∃ e4 e5 e6, st = ⟨[some (tO ra true fa), some (.tup (r.map nD)), some (.tup (ws.map oD)), some (.loc 0), e4, e5, e6], [.lst (a.map nD)]⟩) ∧ a.length = r.length) (step := lentStep r ws) (f := fun t => .tup [nD t, nD (r.getD t 0)]) (g := gTp 2 (gsCons (gNm 4) (gsCons (gNm 5) gsNil))) (body := sFor (iT (eCall 0 hangF (aCons (eVar 2) (aCons (eVar 4) aNil)))) (gNm 6) (sSetIx (eB hMax (aCons (eOp gIx (eVar 3) (eVar 6)) (aCons (eVar 5) aNil))) (eVar 3) (eVar 6)))
      (List.range r.length) r ⟨[some (tO ra true fa), some (.tup (r.map nD)), some (.tup (ws.map oD)), some (.loc 0), none, none, none], [.lst (r.map nD)]⟩ ⟨⟨none, none, none, rfl⟩, rfl⟩ (by
        rintro t ht a _ ⟨⟨e4, e5, e6, rfl⟩, ha⟩
        have ht : t < ws.length := hl ▸ List.mem_range.mp ht
        refine ⟨⟨[some (tO ra true fa), some (.tup (r.map nD)), some (.tup (ws.map oD)), some (.loc 0), some (nD t), some (nD (r.getD t 0)), e6], [.lst (a.map nD)]⟩, ?_⟩
        obtain ⟨st', e1, ⟨e6', e2⟩, e3⟩ := forL_fold (A := fun (a : List Nat) st => (∃ e6, st = ⟨[some (tO ra true fa), some (.tup (r.map nD)), some (.tup (ws.map oD)), some (.loc 0), some (nD t), some (nD (r.getD t 0)), e6], [.lst (a.map nD)]⟩) ∧ a.length = r.length) (step := fun a o => a.set o (maxN (a.getD o 0) (r.getD t 0))) (f := nD) (g := gNm 6) (body := sSetIx (eB hMax (aCons (eOp gIx (eVar 3) (eVar 6)) (aCons (eVar 5) aNil))) (eVar 3) (eVar 6))
          (hangM ws t) a ⟨[some (tO ra true fa), some (.tup (r.map nD)), some (.tup (ws.map oD)), some (.loc 0), some (nD t), some (nD (r.getD t 0)), e6], [.lst (a.map nD)]⟩ ⟨⟨e6, rfl⟩, ha⟩ (by
            rintro o ho a _ ⟨⟨e6, rfl⟩, ha⟩
            have ho : o < a.length := by
              have := (hang_ok h.four h.low ht).2.2 o ho
              omega
            refine ⟨_, ⟨[some (tO ra true fa), some (.tup (r.map nD)), some (.tup (ws.map oD)), some (.loc 0), some (nD t), some (nD (r.getD t 0)), some (nD o)], [.lst ((a.set o (maxN (a.getD o 0) (r.getD t 0))).map nD)]⟩, rfl, ?_, ⟨_, rfl⟩, by simpa using ha⟩
            rw [← set_nD]
            simp only [sSetIx, eB, aCons, aNil, eOp, eVar, Out.bind, thenS, gIx, seqOf, lstOf, List.getElem?_cons_zero, List.getElem?_cons_succ, List.set_cons_zero, List.set_cons_succ, atI_nD ho, max_nD, setIx, List.length_map, ixN_nat ho])
        refine ⟨st', ?_, ?_, ?_⟩
        · simp [gTp, gsCons, gsNil, gNm]
        · refine sFor_of (iT_of ?_) e1
          exact call_hang h ht _
        · exact ⟨⟨_, _, _, e2⟩, e3⟩)
    refine ⟨e4, e5, e6, ?_⟩
    refine sFor_of ((iEnT_of (ds := r.map nD) rfl).trans (by rw [enumD_nat])) ?_
    exact e1.trans (congrArg _ e2)
  obtain ⟨e4, e5, e6, go⟩ := go
  simp only [ranksF, trimF, runF, b_ranks_now, sSeq, sAsg, eB, aCons, aNil, eVar, startD, List.map_cons, List.map_nil, List.length_cons, List.length_nil, List.cons_append, List.nil_append, List.replicate, Out.bind, List.getElem?_cons_zero, List.getElem?_cons_succ, hList, seqOf, if_true, newCell, thenS, asg, gNm, List.set_cons_zero, List.set_cons_succ, sIf, tTru, eUn, fld2, truD, go, sRet, hTuple, lstOf, outD, below, belows_nD, List.take_zero, List.all_nil]
theorem ranks_plain {ra : Bool} {fa : Option Nat} {r : List Nat} {ws : List (Option Nat)} : ranksF [tO ra false fa, .tup (r.map nD), .tup (ws.map oD)] [] = .ok (.tup (r.map nD)) [] := by
  simp only [ranksF, trimF, runF, b_ranks_now, sSeq, sAsg, eB, aCons, aNil, eVar, startD, List.map_cons, List.map_nil, List.length_cons, List.length_nil, List.cons_append, List.nil_append, List.replicate, Out.bind, List.getElem?_cons_zero, List.getElem?_cons_succ, hList, seqOf, if_true, newCell, thenS, asg, gNm, List.set_cons_zero, List.set_cons_succ, sIf, tTru, eUn, fld2, truD, sNil, sRet, hTuple, lstOf, outD, below, belows_nD, List.take_zero, List.all_nil]
  simp [below, belows_nD]
theorem lent_go {r : List Nat} {ws : List (Option Nat)} (h : Ws ws) (hl : r.length = ws.length) : ∃ e3 e4, sFor (iR1 (aCons (eB hLen (aCons (eVar 0) aNil)) aNil)) (gNm 3) (sFor (iL (eCall 0 hungF (aCons (eVar 1) (aCons (eVar 3) aNil)))) (gNm 4) (sSetIx (eB hMax (aCons (eB hInt (aCons (eOp gIx (eVar 2) (eVar 4)) aNil)) (aCons (eB hInt (aCons (eOp gIx (eVar 0) (eVar 3)) aNil)) aNil))) (eVar 2) (eVar 4)))
      ⟨[some (.lst (r.map nD)), some (.lst (ws.map oD)), some (.loc 0), none, none], [.lst (r.map nD)]⟩ = .nx ⟨[some (.lst (r.map nD)), some (.lst (ws.map oD)), some (.loc 0), e3, e4], [.lst ((lentM r ws).map nD)]⟩ := by
    obtain ⟨st', e1, ⟨e3, e4, e2⟩, _⟩ := forL_fold (A := fun (a : List Nat) st => (∃ e3 e4, st = ⟨[some (.lst (r.map nD)), some (.lst (ws.map oD)), some (.loc 0), e3, e4], [.lst (a.map nD)]⟩) ∧ a.length = r.length) (step := lentStep r ws) (f := nD) (g := gNm 3) (body := sFor (iL (eCall 0 hungF (aCons (eVar 1) (aCons (eVar 3) aNil)))) (gNm 4) (sSetIx (eB hMax (aCons (eB hInt (aCons (eOp gIx (eVar 2) (eVar 4)) aNil)) (aCons (eB hInt (aCons (eOp gIx (eVar 0) (eVar 3)) aNil)) aNil))) (eVar 2) (eVar 4)))
      (List.range r.length) r ⟨[some (.lst (r.map nD)), some (.lst (ws.map oD)), some (.loc 0), none, none], [.lst (r.map nD)]⟩ ⟨⟨none, none, rfl⟩, rfl⟩ (by
        rintro t ht a _ ⟨⟨e3, e4, rfl⟩, ha⟩
        have htr := List.mem_range.mp ht
        have ht : t < ws.length := hl ▸ List.mem_range.mp ht
        refine ⟨⟨[some (.lst (r.map nD)), some (.lst (ws.map oD)), some (.loc 0), some (nD t), e4], [.lst (a.map nD)]⟩, ?_⟩
        obtain ⟨st', e1, ⟨e4', e2⟩, e3⟩ := forL_fold (A := fun (a : List Nat) st => (∃ e4, st = ⟨[some (.lst (r.map nD)), some (.lst (ws.map oD)), some (.loc 0), some (nD t), e4], [.lst (a.map nD)]⟩) ∧ a.length = r.length) (step := fun a o => a.set o (maxN (a.getD o 0) (r.getD t 0))) (f := nD) (g := gNm 4) (body := sSetIx (eB hMax (aCons (eB hInt (aCons (eOp gIx (eVar 2) (eVar 4)) aNil)) (aCons (eB hInt (aCons (eOp gIx (eVar 0) (eVar 3)) aNil)) aNil))) (eVar 2) (eVar 4))
          (hangM ws t) a ⟨[some (.lst (r.map nD)), some (.lst (ws.map oD)), some (.loc 0), some (nD t), e4], [.lst (a.map nD)]⟩ ⟨⟨e4, rfl⟩, ha⟩ (by
            rintro o ho a _ ⟨⟨e4, rfl⟩, ha⟩
            have ho : o < a.length := by
              have := (hang_ok h.four h.low ht).2.2 o ho
              omega
            refine ⟨_, ⟨[some (.lst (r.map nD)), some (.lst (ws.map oD)), some (.loc 0), some (nD t), some (nD o)], [.lst ((a.set o (maxN (a.getD o 0) (r.getD t 0))).map nD)]⟩, rfl, ?_, ⟨_, rfl⟩, by simpa using ha⟩
            rw [← set_nD]
            simp only [sSetIx, eB, aCons, aNil, eOp, eVar, Out.bind, thenS, gIx, seqOf, lstOf, List.getElem?_cons_zero, List.getElem?_cons_succ, List.set_cons_zero, List.set_cons_succ, atI_nD ho, atI_nD htr, hInt, max_nD, setIx, List.length_map, ixN_nat ho])
        refine ⟨st', ?_, ?_, ?_⟩
        · simp [gNm]
        · refine sFor_of (iL_of ?_) e1
          exact call_hung h ht _
        · exact ⟨⟨_, _, e2⟩, e3⟩)
    refine ⟨e3, e4, ?_⟩
    have hb : (eB hLen (aCons (eVar 0) aNil)) ⟨[some (.lst (r.map nD)), some (.lst (ws.map oD)), some (.loc 0), none, none], [.lst (r.map nD)]⟩ = .ok (nD r.length) [.lst (r.map nD)] := by
      simp only [eB, aCons, aNil, hLen, seqOf, lstOf, eVar, Out.bind, List.getElem?_cons_zero, List.length_map]
    have := h.four
    refine sFor_of (iR1_nat hb (by omega)) ?_
    exact e1.trans (congrArg _ e2)
theorem lent_ok {r : List Nat} {ws : List (Option Nat)} (h : Ws ws) (hl : r.length = ws.length) : lentF0 [.lst (r.map nD), .lst (ws.map oD)] [] = .ok (.lst ((lentM r ws).map nD)) [] := by
  obtain ⟨e3, e4, go⟩ := lent_go h hl
  refine trimF_of (cs' := [.lst ((lentM r ws).map nD)]) (runF_rt (st := ⟨_, _⟩) ((sSeq_of (st1 := ⟨[some (.lst (r.map nD)), some (.lst (ws.map oD)), some (.loc 0), none, none], [.lst (r.map nD)]⟩) rfl).trans ((sSeq_of go).trans rfl))) rfl (outD_loc belows_nD)
end K67

namespace VL
open PySem L2
theorem eLc_map {α : Type} {src : Ix} {g : Gt} {t : Tx} {f : Ex} {vs : List Nat} {st : S} {xs : List α} {fD : α → D} {c1 : List Cell} {q : α → Bool} {h : α → D} (hs : src st = .ok (xs.map fD, keepAll) c1) (hl : xs.length < 16777216) (hb : c1.all (belowC c1.length) = true)
    (hh : ∀ x ∈ xs, q x = true → below c1.length (h x) = true)
    (ht : ∀ x ∈ xs, ∀ acc, ∃ env1, g (fD x) ⟨wipeD st.env vs, c1 ++ [.lst acc]⟩ = some ⟨env1, c1 ++ [.lst acc]⟩ ∧ t ⟨env1, c1 ++ [.lst acc]⟩ = .ok (q x) (c1 ++ [.lst acc]) ∧ (q x = true → f ⟨env1, c1 ++ [.lst acc]⟩ = .ok (h x) (c1 ++ [.lst acc]))) :
    eLc src g t f vs st = .ok (.lst ((xs.filter q).map h)) c1 := by
  have main : ∀ (es : List α) (acc : List D), (∀ d ∈ es, d ∈ xs) → acc.length + es.length < 16777216 → lcL g t f keepAll (wipeD st.env vs) c1.length (es.map fD) (c1 ++ [.lst acc]) = some (c1 ++ [.lst (acc ++ (es.filter q).map h)]) := by
    intro es
    induction es with
    | nil => intro acc _ _; simp [lcL, keepAll]
    | cons d es ih =>
      intro acc hm hz
      have hz' : acc.length + es.length + 1 < 16777216 := by simpa [Nat.add_assoc] using hz
      obtain ⟨env1, e1, e2, e3⟩ := ht d (hm d List.mem_cons_self) acc
      rw [List.map_cons]
      unfold lcL
      cases c : q d with
      | false =>
        rw [c] at e2
        simp only [keepAll, if_true, e1, e2]
        rw [ih acc (fun x hx => hm x (List.mem_cons_of_mem _ hx)) (by omega), List.filter_cons_of_neg (by simp [c])]
      | true =>
        rw [c] at e2
        have g1 : (c1 ++ [Cell.lst acc])[c1.length]? = some (.lst acc) := by
          rw [List.getElem?_append_right (Nat.le_refl _), Nat.sub_self]; rfl
        have g2 : (c1 ++ [Cell.lst acc]).set c1.length (.lst (acc ++ [h d])) = c1 ++ [.lst (acc ++ [h d])] := by
          rw [List.set_append_right _ _ (Nat.le_refl _), Nat.sub_self]; rfl
        simp only [keepAll, if_true, e1, e2, e3 c, g1, g2]
        rw [if_pos (by omega), ih (acc ++ [h d]) (fun x hx => hm x (List.mem_cons_of_mem _ hx)) (by simp; omega), List.filter_cons_of_pos (by simp [c])]
        simp
  unfold eLc
  rw [hs]
  show (match lcL g t f keepAll (wipeD st.env vs) c1.length (xs.map fD) (c1 ++ [.lst []]) with
    | some c2 => _
    | none => _) = _
  rw [main xs [] (fun _ h => h) (by simpa using hl)]
  simp only [List.nil_append, lastCell_snoc]
  refine if_pos ⟨by first | trivial | rfl, belows_of fun x hx => ?_, hb⟩
  obtain ⟨d, hd, rfl⟩ := List.mem_map.mp hx
  obtain ⟨h1, h2⟩ := List.mem_filter.mp hd
  exact hh d h1 h2
section
variable {f fa fb : Ex} {g : F2} {st st1 : S} {x y d : D} {c1 c2 : List Cell} {o : Out D} {so : SOut} {t : Tx} {k : Bool} {sf sg : Sx}
theorem eOp_of (h1 : fa st = .ok x c1) (h2 : fb ⟨st.env, c1⟩ = .ok y c2) (h3 : g c2 x y = o) : eOp g fa fb st = o := by
  unfold eOp
  rw [h1]
  show (fb ⟨st.env, c1⟩).bind _ = _
  rw [h2]
  exact h3
theorem eUn_of {g : F1} (h1 : fa st = .ok x c1) (h3 : g c1 x = o) : eUn g fa st = o := by
  unfold eUn
  rw [h1]
  exact h3
theorem tCmp_of (h : eOp g fa fb st = .ok (.bl k) c1) : tCmp' g fa fb st = .ok k c1 := by
  unfold tCmp'
  rw [h]
  rfl
theorem tTru_of (h : fa st = .ok x c1) (h2 : truD c1 x = some k) : tTru fa st = .ok k c1 := by
  unfold tTru
  rw [h]
  show (match truD c1 x with
    | some k => Out.ok k c1
    | none => .no) = _
  rw [h2]
theorem tNot_of (h : t st = .ok k c1) : tNot' t st = .ok (!k) c1 := by
  unfold tNot'
  rw [h]
  rfl
theorem tAnd_of {t2 : Tx} {k2 : Bool} (h : t st = .ok k c1) (h2 : k = true → t2 ⟨st.env, c1⟩ = .ok k2 c2) (h3 : k = false → c2 = c1) : tAnd' t t2 st = .ok (k && k2) c2 := by
  unfold tAnd'
  rw [h]
  cases k with
  | false => rw [h3 rfl]; rfl
  | true => exact h2 rfl
theorem tOr_of {t2 : Tx} {k2 : Bool} (h : t st = .ok k c1) (h2 : k = false → t2 ⟨st.env, c1⟩ = .ok k2 c2) (h3 : k = true → c2 = c1) : tOr' t t2 st = .ok (k || k2) c2 := by
  unfold tOr'
  rw [h]
  cases k with
  | true => rw [h3 rfl]; rfl
  | false => exact h2 rfl
theorem sIf_of (h : t st = .ok k c1) (h2 : (if k then sf else sg) ⟨st.env, c1⟩ = so) : sIf t sf sg st = so := by
  unfold sIf
  rw [h]
  cases k <;> exact h2
theorem eIf_of (h : t st = .ok k c1) (h2 : (if k then fa else fb) ⟨st.env, c1⟩ = o) : eIf t fa fb st = o := by
  unfold eIf
  rw [h]
  cases k <;> exact h2
theorem eB1_of {h : FB} (h1 : fa st = .ok x c1) (h2 : h c1 [x] = o) : eB h (aCons fa aNil) st = o := by
  simp only [eB, aCons, aNil, h1, Out.bind]
  exact h2
theorem sAsg_nm {i : Nat} (h : fa st = .ok d c1) : sAsg fa (gNm i) st = .nx ⟨st.env.set i (some d), c1⟩ := by
  unfold sAsg
  rw [h]
  rfl
theorem sRet_of (h : fa st = .ok d c1) : sRet fa st = .rt d ⟨st.env, c1⟩ := by
  unfold sRet
  rw [h]
  rfl
theorem eqI {neg : Bool} {cs : List Cell} {i j : Int} : gEqB neg cs (.int i) (.int j) = .ok (.bl (if neg then !(i == j) else i == j)) cs := by
  have h : PyData.eqv (.int i) (.int j) = (i == j) := by simp [PyData.eqv]
  unfold gEqB
  simp only [norm, VL.plain, py, SeqAt.shaped, PyData.canLay0, PyData.depth, h]
  rfl
theorem ix_tup {ds : List D} {k : Nat} {cs : List Cell} (h : atI ds (k : Int) = some d) : gIx cs (.tup ds) (nD k) = .ok d cs := by
  show (match atI ds (k : Int) with
      | some d => Out.ok d cs
      | none => .no) = _
  rw [h]
theorem ix_lst {ds : List D} {k : Nat} {cs : List Cell} (h : atI ds (k : Int) = some d) : gIx cs (.lst ds) (nD k) = .ok d cs := by
  show (match atI ds (k : Int) with
      | some d => Out.ok d cs
      | none => .no) = _
  rw [h]
end
end VL
namespace K67
open PySem L2 PyProof.Rows VL
def mx (l : List Nat) : Int := maxI (l.map fun k : Nat => (k : Int))
theorem hMax_nD {l : List Nat} {cs : List Cell} (h : l ≠ []) : hMax cs [.lst (l.map nD)] = .ok (.int (mx l)) cs := by
  show (match intsOf (l.map nD) with
      | some ns => if ns.isEmpty then Out.no else Out.ok (D.int (maxI ns)) cs
      | none => .no) = _
  rw [intsOf_nD]
  cases l with
  | nil => exact absurd rfl h
  | cons k l => rfl
def bestM (now able : List Nat) : List Nat := able.filter fun t => ((now.getD t 0 : Nat) : Int) == mx (able.map fun t => now.getD t 0)
def dueM (fa : Option Nat) (m : Int) : Bool := match fa with
  | some k => decide ((k : Int) ≤ m)
  | none => false
def choM (ra le : Bool) (fa : Option Nat) (r : List Nat) (ws : List (Option Nat)) (able mem : List Nat) : List Nat :=
  if able = [] then [] else if dueM fa (mx (able.map fun t => mem.getD t 0)) = true then bestM mem able else if ra then bestM (if le then lentM r ws else r) able else able
/-- the comprehension [now[t] for t in can] -/
theorem vals_ok {env : List (Option D)} {a b : Nat} {now able : List Nat} {src : Ix} (hs : src ⟨env, []⟩ = .ok (able.map nD, keepAll) []) (hl : able.length < 5) (hn : env[b]? = some (some (.tup (now.map nD)))) (hab : b ≠ a) (ha : a < env.length) (hlt : ∀ t ∈ able, t < now.length) :
    eLc src (gNm a) tTrue (eOp gIx (eVar b) (eVar a)) [a] ⟨env, []⟩ = .ok (.lst ((able.map fun t => now.getD t 0).map nD)) [] := by
  have e := eLc_map (src := src) (g := gNm a) (t := tTrue) (f := eOp gIx (eVar b) (eVar a)) (vs := [a]) (st := ⟨env, []⟩) (xs := able) (fD := nD) (c1 := []) (q := fun _ => true) (h := fun t => nD (now.getD t 0)) hs (by omega) rfl (fun _ _ _ => rfl) (fun t ht acc => ⟨_, rfl, rfl, fun _ => by
    refine eOp_of (x := .tup (now.map nD)) (y := nD t) (c1 := [.lst acc]) (c2 := [.lst acc]) ?_ ?_ (ix_tup (atI_nD (hlt t ht)))
    · unfold eVar
      simp [wipeD, Ne.symm hab, hn]
    · unfold eVar
      simp [wipeD, ha]⟩)
  rw [e, List.map_map, List.filter_eq_self.mpr (by simp)]
  rfl
theorem vals_okL {env : List (Option D)} {a b : Nat} {now able : List Nat} {src : Ix} (hs : src ⟨env, []⟩ = .ok (able.map nD, keepAll) []) (hl : able.length < 5) (hn : env[b]? = some (some (.lst (now.map nD)))) (hab : b ≠ a) (ha : a < env.length) (hlt : ∀ t ∈ able, t < now.length) :
    eLc src (gNm a) tTrue (eB hInt (aCons (eOp gIx (eVar b) (eVar a)) aNil)) [a] ⟨env, []⟩ = .ok (.lst ((able.map fun t => now.getD t 0).map nD)) [] := by
  have e := eLc_map (src := src) (g := gNm a) (t := tTrue) (f := eB hInt (aCons (eOp gIx (eVar b) (eVar a)) aNil)) (vs := [a]) (st := ⟨env, []⟩) (xs := able) (fD := nD) (c1 := []) (q := fun _ => true) (h := fun t => nD (now.getD t 0)) hs (by omega) rfl (fun _ _ _ => rfl) (fun t ht acc => ⟨_, rfl, rfl, fun _ => by
    refine eB1_of (x := nD (now.getD t 0)) (c1 := [.lst acc]) (eOp_of (x := .lst (now.map nD)) (y := nD t) (c1 := [.lst acc]) (c2 := [.lst acc]) ?_ ?_ (ix_lst (atI_nD (hlt t ht)))) rfl
    · unfold eVar
      simp [wipeD, Ne.symm hab, hn]
    · unfold eVar
      simp [wipeD, ha]⟩)
  rw [e, List.map_map, List.filter_eq_self.mpr (by simp)]
  rfl
/-- the comprehension [t for t in can if now[t] == m] -/
theorem best_ok {env : List (Option D)} {a b c : Nat} {now able : List Nat} {m : Int} {nw : D} {src : Ix} (hs : src ⟨env, []⟩ = .ok (able.map nD, keepAll) []) (hl : able.length < 5) (hn : env[b]? = some (some nw)) (hw : nw = .tup (now.map nD) ∨ nw = .lst (now.map nD)) (hm : env[c]? = some (some (.int m))) (hab : b ≠ a) (hac : c ≠ a) (ha : a < env.length) (hlt : ∀ t ∈ able, t < now.length) :
    eLc src (gNm a) (tCmp' (gEqB false) (eOp gIx (eVar b) (eVar a)) (eVar c)) (eVar a) [a] ⟨env, []⟩ = .ok (.lst ((able.filter fun t => ((now.getD t 0 : Nat) : Int) == m).map nD)) [] := by
  refine eLc_map (fD := nD) hs (by omega) rfl (fun _ _ _ => rfl) (fun t ht acc => ⟨_, rfl, ?_, fun _ => ?_⟩)
  · refine tCmp_of (eOp_of (x := nD (now.getD t 0)) (c1 := [.lst acc]) (y := .int m) (c2 := [.lst acc]) (eOp_of (x := nw) (y := nD t) (c1 := [.lst acc]) (c2 := [.lst acc]) ?_ ?_ ?_) ?_ eqI)
    · unfold eVar
      simp [wipeD, Ne.symm hab, hn]
    · unfold eVar
      simp [wipeD, ha]
    · rcases hw with rfl | rfl
      · exact ix_tup (atI_nD (hlt t ht))
      · exact ix_lst (atI_nD (hlt t ht))
    · unfold eVar
      simp [wipeD, Ne.symm hac, hm]
  · unfold eVar
    simp [wipeD, ha]
end K67

namespace K67
open PySem L2 PyProof.Rows VL
theorem sSeq_rt {f g : Sx} {st st1 : S} {d : D} (h : f st = .rt d st1) : sSeq f g st = .rt d st1 := by
  unfold sSeq
  rw [h]
theorem callV0_of {fn : Fn} {ds : List D} {d : D} {cs : List Cell} (hd : ds.map (lendD 0 cs) = ds) (hb : belows 0 ds = true) (h : fn ds [] = .ok d []) : callV 0 fn ds cs = .ok d cs := by
  unfold callV
  rw [hd, if_pos ⟨Nat.zero_le _, hb, by simp⟩, List.take_zero, h]
  show (if _ then Out.ok d ([] ++ cs.drop 0) else Out.no) = _
  rw [if_pos ⟨rfl, .inl hb⟩]
  simp
theorem below_oD {n : Nat} {fa : Option Nat} : below n (oD fa) = true := by cases fa <;> rfl
theorem call_ranks {ra le : Bool} {fa : Option Nat} {r : List Nat} {ws : List (Option Nat)} (h : Ws ws) (hl : r.length = ws.length) (cs : List Cell) : callV 0 ranksF [tO ra le fa, .tup (r.map nD), .tup (ws.map oD)] cs = .ok (.tup ((if le then lentM r ws else r).map nD)) cs := by
  refine callV0_of rfl ?_ ?_
  · simp [belows, below, belows_oD, belows_nD, below_oD]
  · cases le with
    | false => exact ranks_plain
    | true => exact ranks_lent h hl
theorem call_lent {r : List Nat} {ws : List (Option Nat)} (h : Ws ws) (hl : r.length = ws.length) (cs : List Cell) : callV 0 lentF0 [.lst (r.map nD), .lst (ws.map oD)] cs = .ok (.lst ((lentM r ws).map nD)) cs :=
  callV0_of rfl (by simp [belows, below, belows_oD, belows_nD]) (lent_ok h hl)
structure Dt (r : List Nat) (ws : List (Option Nat)) (able mem : List Nat) : Prop where
  w : Ws ws
  r : r.length = ws.length
  mem : mem.length = ws.length
  few : able.length < 5
  low : ∀ t ∈ able, t < ws.length
theorem ne0 {l : List Nat} (h : l ≠ []) : (((l.length : Nat) : Int) == 0) = false := by
  cases l with
  | nil => exact absurd rfl h
  | cons x l => simp; omega
theorem isnon_oD {cs : List Cell} {neg : Bool} {fa : Option Nat} : gIs neg cs (oD fa) .non = .ok (.bl (if neg then fa.isSome else fa.isNone)) cs := by
  cases fa <;> cases neg <;> rfl
theorem due_ok {env : List (Option D)} {cs : List Cell} {a : Nat} {f : Ex} {m : Int} {fa : Option Nat} (h : f ⟨env, cs⟩ = .ok (oD fa) cs) (hm : env[a]? = some (some (.int m))) : tAnd' (tCmp' (gIs true) f (eC .non)) (tCmp' gGe (eVar a) f) ⟨env, cs⟩ = .ok (dueM fa m) cs := by
  cases fa with
  | none => exact tAnd_of (k := false) (k2 := false) (c1 := cs) (tCmp_of (eOp_of h rfl rfl)) (fun z => by cases z) (fun _ => rfl)
  | some k => exact tAnd_of (k := true) (k2 := decide ((k : Int) ≤ m)) (c1 := cs) (tCmp_of (eOp_of h rfl rfl)) (fun _ => tCmp_of (eOp_of (x := .int m) (y := nD k) (c1 := cs) (c2 := cs) (by unfold eVar; simp [hm]) h rfl)) (fun _ => rfl)
def Rt (body : Sx) (st : S) (d : D) : Prop := ∃ e, body st = .rt d ⟨e, []⟩
theorem Rt.seq {f g : Sx} {st st1 : S} {d : D} (h : f st = .nx st1) (h2 : Rt g st1 d) : Rt (sSeq f g) st d := by
  obtain ⟨e, h2⟩ := h2
  exact ⟨e, (sSeq_of h).trans h2⟩
theorem Rt.rt {f g : Sx} {st : S} {d : D} (h : Rt f st d) : Rt (sSeq f g) st d := by
  obtain ⟨e, h⟩ := h
  exact ⟨e, sSeq_rt h⟩
theorem Rt.iff {t : VL.Tx} {f g : Sx} {st : S} {d : D} {k : Bool} {c1 : List Cell} (h : t st = .ok k c1) (h2 : Rt (if k then f else g) ⟨st.env, c1⟩ d) : Rt (sIf t f g) st d := by
  obtain ⟨e, h2⟩ := h2
  exact ⟨e, sIf_of h h2⟩
theorem Rt.ret {f : Ex} {st : S} {d : D} (h : f st = .ok d []) : Rt (sRet f) st d := ⟨_, sRet_of h⟩
theorem skip_of {t : VL.Tx} {f : Sx} {env : List (Option D)} {cs c1 : List Cell} (h : t ⟨env, cs⟩ = .ok false c1) : sIf t f sNil ⟨env, cs⟩ = .nx ⟨env, c1⟩ := sIf_of (k := false) h rfl
theorem may_body {ra le : Bool} {fa : Option Nat} {r : List Nat} {ws : List (Option Nat)} {able mem : List Nat} (h : Dt r ws able mem) : Rt b_may ⟨[some (tO ra le fa), some (.tup (r.map nD)), some (.tup (able.map nD)), some (.tup (ws.map oD)), some (.tup (mem.map nD)), none, none, none, none], []⟩ (.tup ((choM ra le fa r ws able mem).map nD)) := by
  unfold b_may choM
  by_cases h0 : able = []
  · subst h0
    exact Rt.rt (Rt.iff (k := true) (c1 := []) (tCmp_of (eOp_of (x := .int 0) (y := .int 0) (c1 := []) (c2 := []) rfl rfl eqI)) (Rt.ret rfl))
  rw [if_neg h0]
  have hne : ∀ l : List Nat, (able.map fun t => l.getD t 0) ≠ [] := fun l => by simpa using h0
  refine Rt.seq (skip_of (c1 := []) (tCmp_of (eOp_of (x := nD (able.map nD).length) (y := .int 0) (c1 := []) (c2 := []) rfl rfl (eqI.trans (by rw [List.length_map, ne0 h0]; rfl))))) ?_
  refine Rt.seq (sAsg_nm (eB1_of (vals_ok (now := mem) (iT_of rfl) h.few rfl (by decide) (by simp) (fun t ht => by rw [h.mem]; exact h.low t ht)) (hMax_nD (hne mem)))) ?_
  cases cd : dueM fa (mx (able.map fun t => mem.getD t 0)) with
  | true =>
    rw [if_pos rfl]
    refine Rt.rt (Rt.iff (k := true) (c1 := []) ((due_ok (eUn_of rfl (fld3 _ _ _ _)) rfl).trans (by rw [cd])) (Rt.ret (eB1_of (best_ok (nw := .tup (mem.map nD)) (iT_of rfl) h.few rfl (.inl rfl) rfl (by decide) (by decide) (by simp) (fun t ht => by rw [h.mem]; exact h.low t ht)) rfl)))
  | false =>
    rw [if_neg (by decide)]
    refine Rt.seq (skip_of (c1 := []) ((due_ok (eUn_of rfl (fld3 _ _ _ _)) rfl).trans (by rw [cd]))) ?_
    cases ra with
    | false => exact Rt.rt (Rt.iff (k := true) (c1 := []) (tNot_of (k := false) (tTru_of (eUn_of rfl (fld1 _ _ _ _)) rfl)) (Rt.ret rfl))
    | true =>
      refine Rt.seq (skip_of (c1 := []) (tNot_of (k := true) (tTru_of (eUn_of rfl (fld1 _ _ _ _)) rfl))) ?_
      refine Rt.seq (sAsg_nm (c1 := []) (call_ranks h.w h.r [])) ?_
      have hl : ∀ t ∈ able, t < (if le then lentM r ws else r).length := fun t ht => by
        have := h.low t ht
        have := h.r
        cases le with
        | false => simpa [this] using h.low t ht
        | true => simpa [this, lentM_len] using h.low t ht
      refine Rt.seq (sAsg_nm (eB1_of (vals_ok (now := if le then lentM r ws else r) (iT_of rfl) h.few rfl (by decide) (by simp) hl) (hMax_nD (hne _)))) ?_
      exact Rt.ret (eB1_of (best_ok (nw := .tup ((if le then lentM r ws else r).map nD)) (iT_of rfl) h.few rfl (.inl rfl) rfl (by decide) (by decide) (by simp) hl) rfl)
theorem eqNil {neg : Bool} {cs : List Cell} {l : List Nat} : gEqB neg cs (.lst (l.map nD)) (.lst []) = .ok (.bl (if neg then !l.isEmpty else l.isEmpty)) cs := by
  obtain ⟨h1, h2⟩ := lay_int (nD_ints (l := l))
  have h3 := plains_int (nD_ints (l := l))
  have h4 : PyData.eqv (.list (pys (l.map nD))) (.list []) = l.isEmpty := by
    cases l with
    | nil => simp [pys, PyData.eqv, PyData.eqvAll]
    | cons k l => simp [pys, PyData.eqv, PyData.eqvAll]
  simp [gEqB, norm, VL.plain, h3, py, SeqAt.shaped, PyData.canLay0, PyData.depth, h1, h2, pys, PyData.canLayAll0, PyData.depthAll, h4, plains]
abbrev tT (ra le : Bool) (fa : Option Nat) : D := .tup [.bl ra, .bl le, oD fa]
theorem best_or {env : List (Option D)} {ra le : Bool} {fa : Option Nat} {now able : List Nat} {m : Int} {src : Ix} (hs : src ⟨env, []⟩ = .ok (able.map nD, keepAll) []) (hl : able.length < 5) (hn : env[7]? = some (some (.lst (now.map nD)))) (hm : env[8]? = some (some (.int m))) (h0 : env[0]? = some (some (tT ra le fa))) (ha : 6 < env.length) (hlt : ∀ t ∈ able, t < now.length) :
    eLc src (gNm 6) (tOr' (tNot' (tTru (eOp gIx (eVar 0) (eC (.int 0))))) (tCmp' (gEqB false) (eOp gIx (eVar 7) (eVar 6)) (eVar 8))) (eVar 6) [6] ⟨env, []⟩ = .ok (.lst ((able.filter fun t => !ra || ((now.getD t 0 : Nat) : Int) == m).map nD)) [] := by
  refine eLc_map (fD := nD) hs (by omega) rfl (fun _ _ _ => rfl) (fun t ht acc => ⟨_, rfl, ?_, fun _ => ?_⟩)
  · refine tOr_of (c1 := [.lst acc]) (c2 := [.lst acc]) (tNot_of (tTru_of (x := .bl ra) (eOp_of (x := tT ra le fa) (y := .int 0) (c1 := [.lst acc]) (c2 := [.lst acc]) ?_ rfl rfl) rfl)) (fun _ => ?_) (fun _ => rfl)
    · unfold eVar
      simp [wipeD, h0]
    refine tCmp_of (eOp_of (x := nD (now.getD t 0)) (c1 := [.lst acc]) (y := .int m) (c2 := [.lst acc]) (eOp_of (x := .lst (now.map nD)) (y := nD t) (c1 := [.lst acc]) (c2 := [.lst acc]) ?_ ?_ ?_) ?_ eqI)
    · unfold eVar
      simp [wipeD, hn]
    · unfold eVar
      simp [wipeD, ha]
    · exact ix_lst (atI_nD (hlt t ht))
    · unfold eVar
      simp [wipeD, hm]
  · unfold eVar
    simp [wipeD, ha]
theorem cho_body {ra le : Bool} {fa : Option Nat} {r : List Nat} {ws : List (Option Nat)} {able mem : List Nat} (h : Dt r ws able mem) : Rt b_chosen ⟨[some (tT ra le fa), some (.lst (r.map nD)), some (.lst (able.map nD)), some (.lst (ws.map oD)), some (.lst (mem.map nD)), none, none, none, none], []⟩ (.lst ((choM ra le fa r ws able mem).map nD)) := by
  unfold b_chosen choM
  by_cases h0 : able = []
  · subst h0
    exact Rt.rt (Rt.iff (k := true) (c1 := []) (tCmp_of (eOp_of (x := .lst (([] : List Nat).map nD)) (y := .lst []) (c1 := []) (c2 := []) rfl rfl eqNil)) (Rt.ret rfl))
  rw [if_neg h0]
  have hne : ∀ l : List Nat, (able.map fun t => l.getD t 0) ≠ [] := fun l => by simpa using h0
  refine Rt.seq (skip_of (c1 := []) (tCmp_of (eOp_of (x := .lst (able.map nD)) (y := .lst []) (c1 := []) (c2 := []) rfl rfl (eqNil.trans (by cases able with
    | nil => exact absurd rfl h0
    | cons k l => rfl))))) ?_
  refine Rt.seq (sAsg_nm (eB1_of (vals_okL (now := mem) (iL_of rfl) h.few rfl (by decide) (by simp) (fun t ht => by rw [h.mem]; exact h.low t ht)) (hMax_nD (hne mem)))) ?_
  cases cd : dueM fa (mx (able.map fun t => mem.getD t 0)) with
  | true =>
    rw [if_pos rfl]
    refine Rt.rt (Rt.iff (k := true) (c1 := []) ((due_ok (eOp_of (x := tT ra le fa) (y := .int 2) (c1 := []) (c2 := []) rfl rfl rfl) rfl).trans (by rw [cd])) (Rt.ret (best_ok (nw := .lst (mem.map nD)) (iL_of rfl) h.few rfl (.inr rfl) rfl (by decide) (by decide) (by simp) (fun t ht => by rw [h.mem]; exact h.low t ht))))
  | false =>
    rw [if_neg (by decide)]
    refine Rt.seq (skip_of (c1 := []) ((due_ok (eOp_of (x := tT ra le fa) (y := .int 2) (c1 := []) (c2 := []) rfl rfl rfl) rfl).trans (by rw [cd]))) ?_
    have e7 : ∀ st : S, st.env[0]? = some (some (tT ra le fa)) → st.env[1]? = some (some (.lst (r.map nD))) → st.env[3]? = some (some (.lst (ws.map oD))) → st.cs = [] → eIf (tTru (eOp gIx (eVar 0) (eC (.int 1)))) (eCall 0 lentF0 (aCons (eVar 1) (aCons (eVar 3) aNil))) (eVar 1) st = .ok (.lst ((if le then lentM r ws else r).map nD)) [] := by
      intro st q0 q1 q3 qc
      have v : ∀ i d, st.env[i]? = some (some d) → eVar i st = .ok d [] := fun i d q => by
        unfold eVar
        rw [q, qc]
      have v' : ∀ i d, st.env[i]? = some (some d) → eVar i ⟨st.env, []⟩ = .ok d [] := fun i d q => by
        unfold eVar
        simp [q]
      refine eIf_of (k := le) (c1 := []) (tTru_of (x := .bl le) (eOp_of (v 0 _ q0) rfl rfl) rfl) ?_
      cases le with
      | false => exact v' 1 _ q1
      | true =>
        show (aCons (eVar 1) (aCons (eVar 3) aNil) _).bind _ = _
        simp only [aCons, aNil, v' 1 _ q1, v' 3 _ q3, Out.bind]
        exact call_lent h.w h.r []
    refine Rt.seq (sAsg_nm (c1 := []) (e7 _ rfl rfl rfl rfl)) ?_
    have hl : ∀ t ∈ able, t < (if le then lentM r ws else r).length := fun t ht => by
      have := h.low t ht
      have := h.r
      cases le with
      | false => simpa [this] using h.low t ht
      | true => simpa [this, lentM_len] using h.low t ht
    refine Rt.seq (sAsg_nm (eB1_of (vals_okL (now := if le then lentM r ws else r) (iL_of rfl) h.few rfl (by decide) (by simp) hl) (hMax_nD (hne _)))) ?_
    have fin := best_or (ra := ra) (le := le) (fa := fa) (m := mx (able.map fun t => (if le then lentM r ws else r).getD t 0)) (now := if le then lentM r ws else r) (able := able) (src := iL (eVar 2)) (env := [some (tT ra le fa), some (.lst (r.map nD)), some (.lst (able.map nD)), some (.lst (ws.map oD)), some (.lst (mem.map nD)), some (.int (mx (able.map fun t => mem.getD t 0))), none, some (.lst ((if le then lentM r ws else r).map nD)), some (.int (mx (able.map fun t => (if le then lentM r ws else r).getD t 0)))]) (iL_of rfl) h.few rfl rfl rfl (by simp) hl
    refine Rt.ret (fin.trans ?_)
    cases ra with
    | false =>
      rw [List.filter_eq_self.mpr (by simp)]
      rfl
    | true => simp [bestM]
theorem may_ok {ra le : Bool} {fa : Option Nat} {r : List Nat} {ws : List (Option Nat)} {able mem : List Nat} (h : Dt r ws able mem) (cs : List Cell) : callV 0 mayF [tO ra le fa, .tup (r.map nD), .tup (able.map nD), .tup (ws.map oD), .tup (mem.map nD)] cs = .ok (.tup ((choM ra le fa r ws able mem).map nD)) cs := by
  refine callV0_of rfl (by simp [belows, below, belows_oD, belows_nD, below_oD]) ?_
  obtain ⟨e, q⟩ := may_body (ra := ra) (le := le) (fa := fa) h
  exact trimF_of (cs' := []) (runF_rt (st := ⟨_, _⟩) q) rfl (outD_low (by simp [below, belows_nD]) (fun m z => by cases z))
theorem cho_ok {ra le : Bool} {fa : Option Nat} {r : List Nat} {ws : List (Option Nat)} {able mem : List Nat} (h : Dt r ws able mem) (cs : List Cell) : callV 0 chosenF [tT ra le fa, .lst (r.map nD), .lst (able.map nD), .lst (ws.map oD), .lst (mem.map nD)] cs = .ok (.lst ((choM ra le fa r ws able mem).map nD)) cs := by
  refine callV0_of rfl (by simp [belows, below, belows_oD, belows_nD, below_oD]) ?_
  obtain ⟨e, q⟩ := cho_body (ra := ra) (le := le) (fa := fa) h
  exact trimF_of (cs' := []) (runF_rt (st := ⟨_, _⟩) q) rfl (outD_low (by simp [below, belows_nD]) (fun m z => by cases z))
theorem choM_low {ra le : Bool} {fa : Option Nat} {r : List Nat} {ws : List (Option Nat)} {able mem : List Nat} : (∀ t ∈ choM ra le fa r ws able mem, t ∈ able) ∧ (choM ra le fa r ws able mem).length ≤ able.length := by
  unfold choM bestM
  split
  · exact ⟨fun t ht => (List.not_mem_nil ht).elim, Nat.zero_le _⟩
  split
  · exact ⟨fun t ht => (List.mem_filter.mp ht).1, List.length_filter_le _ _⟩
  split
  · exact ⟨fun t ht => (List.mem_filter.mp ht).1, List.length_filter_le _ _⟩
  · exact ⟨fun t ht => ht, Nat.le_refl _⟩
end K67

namespace K67
open PySem L2 PyProof.Rows VL
theorem inD_nD {t : Nat} {able : List Nat} : inD (nD t) (able.map nD) = decide (t ∈ able) := by
  unfold inD
  rw [List.any_map]
  have : ((fun y => eqF y (nD t)) ∘ nD) = fun k : Nat => k == t := by
    funext k
    show ((k : Int) == (t : Int)) = (k == t)
    by_cases h : k = t
    · simp [h]
    · have h1 : ((k : Int) == (t : Int)) = false := by simp; omega
      have h2 : (k == t) = false := by simp; omega
      rw [h1, h2]
  rw [this]
  rw [List.any_beq']
  simp
theorem flats_nD {l : List Nat} : (l.map nD).all flatD = true := by
  rw [List.all_eq_true]
  intro x hx
  obtain ⟨k, _, rfl⟩ := List.mem_map.mp hx
  rfl
theorem in_ok {neg : Bool} {cs : List Cell} {t : Nat} {able : List Nat} {c : D} (hc : c = .tup (able.map nD) ∨ c = .lst (able.map nD)) : gIn neg cs (nD t) c = .ok (.bl (if neg then !decide (t ∈ able) else decide (t ∈ able))) cs := by
  have e : gIn neg cs (nD t) c = (match seqOf cs c with
    | some ds => if flatD (nD t) && ds.all flatD then .ok (.bl (if neg then !inD (nD t) ds else inD (nD t) ds)) cs else .no
    | none => .no) := by
    rcases hc with rfl | rfl <;> rfl
  rw [e]
  have s : seqOf cs c = some (able.map nD) := by rcases hc with rfl | rfl <;> rfl
  rw [s]
  simp only [flats_nD, inD_nD]
  rfl
def aftM (mem able : List Nat) (task : Nat) : List Nat := (List.range mem.length).map fun t => if decide (t ∈ able) && !decide (t = task) then mem.getD t 0 + 1 else 0
theorem aft_ok {env : List (Option D)} {cs : List Cell} {a b c d : Nat} {src : Ix} {mem able : List Nat} {task : Nat} {cv : D} (hs : src ⟨env, cs⟩ = .ok (enumD (mem.map nD), keepAll) cs) (hl : mem.length < 5) (hb : cs.all (belowC cs.length) = true) (hc : env[c]? = some (some cv)) (hcv : cv = .tup (able.map nD) ∨ cv = .lst (able.map nD)) (hd : env[d]? = some (some (nD task))) (ha : a < env.length) (hbl : b < env.length) (hab : a ≠ b) (hca : c ≠ a ∧ c ≠ b) (hda : d ≠ a ∧ d ≠ b) :
    eLc src (gTp 2 (gsCons (gNm a) (gsCons (gNm b) gsNil))) tTrue (eIf (tAnd' (tCmp' (gIn false) (eVar a) (eVar c)) (tCmp' (gEqB true) (eVar a) (eVar d))) (eOp gAdd (eVar b) (eC (.int 1))) (eC (.int 0))) [a, b] ⟨env, cs⟩ = .ok (.lst ((aftM mem able task).map nD)) cs := by
  rw [enumD_nat] at hs
  have e := eLc_map (g := gTp 2 (gsCons (gNm a) (gsCons (gNm b) gsNil))) (t := tTrue) (f := (eIf (tAnd' (tCmp' (gIn false) (eVar a) (eVar c)) (tCmp' (gEqB true) (eVar a) (eVar d))) (eOp gAdd (eVar b) (eC (.int 1))) (eC (.int 0)))) (vs := [a, b]) (fD := fun t => .tup [nD t, nD (mem.getD t 0)]) (q := fun _ => true) (h := fun t => nD (if decide (t ∈ able) && !decide (t = task) then mem.getD t 0 + 1 else 0)) hs (by simp; omega) hb (fun _ _ _ => rfl) (fun t ht acc => ⟨((wipeD env [a, b]).set a (some (nD t))).set b (some (nD (mem.getD t 0))), by simp [gTp, gsCons, gsNil, gNm], rfl, fun _ => by
    refine eIf_of (k := decide (t ∈ able) && !decide (t = task)) (c1 := cs ++ [.lst acc]) (tAnd_of (c1 := cs ++ [.lst acc]) (tCmp_of (eOp_of (x := nD t) (y := cv) (c1 := cs ++ [.lst acc]) (c2 := cs ++ [.lst acc]) ?_ ?_ (in_ok hcv))) (fun _ => tCmp_of (eOp_of (x := nD t) (y := nD task) (c1 := cs ++ [.lst acc]) (c2 := cs ++ [.lst acc]) ?_ ?_ (eqI.trans ?_))) (fun _ => rfl)) ?_
    · unfold eVar
      simp [wipeD, ha, Ne.symm hab]
    · unfold eVar
      simp [wipeD, Ne.symm hca.1, Ne.symm hca.2, hc]
    · unfold eVar
      simp [wipeD, ha, Ne.symm hab]
    · unfold eVar
      simp [wipeD, Ne.symm hda.1, Ne.symm hda.2, hd]
    · by_cases q : t = task
      · simp [q]
      · have h1 : ((t : Int) == (task : Int)) = false := by simp; omega
        simp [q, h1]
    · cases (decide (t ∈ able) && !decide (t = task)) with
      | false => rfl
      | true =>
        refine eOp_of (x := nD (mem.getD t 0)) (y := .int 1) (c1 := cs ++ [.lst acc]) (c2 := cs ++ [.lst acc]) ?_ rfl rfl
        unfold eVar
        simp [wipeD, hbl]⟩)
  rw [e, List.filter_eq_self.mpr (by simp)]
  unfold aftM
  rw [List.map_map]
  rfl
theorem mem_ok {ra le : Bool} {fa : Option Nat} {mem able : List Nat} {task : Nat} (hl : mem.length < 5) (cs : List Cell) : callV 0 memF [tO ra le fa, .tup (mem.map nD), .tup (able.map nD), nD task] cs = .ok (.tup ((if fa.isNone then mem else aftM mem able task).map nD)) cs := by
  refine callV0_of rfl (by simp [belows, below, belows_oD, belows_nD, below_oD]) ?_
  have q : Rt b_memory_after ⟨[some (tO ra le fa), some (.tup (mem.map nD)), some (.tup (able.map nD)), some (nD task), none, none], []⟩ (.tup ((if fa.isNone then mem else aftM mem able task).map nD)) := by
    unfold b_memory_after
    cases fa with
    | none => exact Rt.rt (Rt.iff (k := true) (c1 := []) (tCmp_of (eOp_of (eUn_of rfl (fld3 _ _ _ _)) rfl rfl)) (Rt.ret rfl))
    | some k =>
      refine Rt.seq (skip_of (c1 := []) (tCmp_of (eOp_of (eUn_of rfl (fld3 _ _ _ _)) rfl rfl))) ?_
      exact Rt.ret (eB1_of (aft_ok (iEnT_of rfl) hl rfl rfl (.inl rfl) rfl (by simp) (by simp) (by decide) (by decide) (by decide)) rfl)
  obtain ⟨e, q⟩ := q
  exact trimF_of (cs' := []) (runF_rt (st := ⟨_, _⟩) q) rfl (outD_low (by simp [below, belows_nD]) (fun m z => by cases z))
theorem box_ok (ns : List Int) : ∃ g s, boxF [.frl (ns.map D.int), .int 0] [] = .ok (.loc 0) (bx g s) := by
  have c4 : ∀ x, cMod x 2147483629 = true := fun x => rfl
  have c5 : cPow 10 18 = true := by decide
  cases ns with
  | nil =>
    refine ⟨0, 8350884, ?_⟩
    simp [boxF, runF, b_box, startD, sSeq, sAsg, eOp, eC, eVar, Out.bind, gMul, cMul, gAdd, thenS, asg, gNm, sIf, tCmp', eB, aCons, aNil, hLen, seqOf, lstOf, gLt, gOrd, gGt, sNil, eIf, gGe, gPow, gInt, c5, sRet, eLoc, hInt, gMod, c4, newCell]
  | cons n ns =>
    obtain ⟨m, hm⟩ : ∃ m : Int, (if n < 0 then -n else n) = m := ⟨_, rfl⟩
    by_cases q : (1000000000000000000 : Int) ≤ m
    · refine ⟨m, m % 2147483629 * 48271 % 2147483629 + 1, ?_⟩
      simp [boxF, runF, b_box, startD, sSeq, sAsg, eOp, eC, eVar, Out.bind, gMul, cMul, gAdd, thenS, asg, gNm, sIf, tCmp', eB, aCons, aNil, hLen, seqOf, lstOf, gLt, gOrd, gGt, sNil, eIf, gGe, gPow, gInt, c5, sRet, eLoc, hInt, gMod, c4, newCell, hAbs, gIx, atI, ixN, hm, q]
    · refine ⟨0, m % 2147483629 * 48271 % 2147483629 + 1, ?_⟩
      simp [boxF, runF, b_box, startD, sSeq, sAsg, eOp, eC, eVar, Out.bind, gMul, cMul, gAdd, thenS, asg, gNm, sIf, tCmp', eB, aCons, aNil, hLen, seqOf, lstOf, gLt, gOrd, gGt, sNil, eIf, gGe, gPow, gInt, c5, sRet, eLoc, hInt, gMod, c4, newCell, hAbs, gIx, atI, ixN, hm, q]
theorem draw_ok (g s : Int) (m : Nat) (h0 : 0 < m) (h1 : m < 1073741824) (rest : List Cell) : ∃ (v : Nat) (g' s' : Int), callV 1 takeF [.loc 0, nD m] (bx g s ++ rest) = .ok (nD v) (bx g' s' ++ rest) ∧ v < m := by
  obtain ⟨v, g', s', e, hv⟩ := take_ok g s m h0 h1
  refine ⟨v, g', s', ?_, hv⟩
  unfold callV
  rw [show [D.loc 0, nD m].map (lendD 1 (bx g s ++ rest)) = [.loc 0, nD m] from rfl, show (bx g s ++ rest).take 1 = bx g s from rfl, if_pos ⟨by simp, rfl, rfl⟩, e]
  rfl
theorem drawE {env : List (Option D)} {rest : List Cell} {g s : Int} {m : Nat} {f : Ex} (h1 : env[1]? = some (some (.loc 0))) (hf : f ⟨env, bx g s ++ rest⟩ = .ok (nD m) (bx g s ++ rest)) (h0 : 0 < m) (h2 : m < 1073741824) : ∃ (v : Nat) (g' s' : Int), eCall 1 takeF (aCons (eVar 1) (aCons f aNil)) ⟨env, bx g s ++ rest⟩ = .ok (nD v) (bx g' s' ++ rest) ∧ v < m := by
  obtain ⟨v, g', s', e, hv⟩ := draw_ok g s m h0 h2 rest
  refine ⟨v, g', s', ?_, hv⟩
  have v1 : eVar 1 ⟨env, bx g s ++ rest⟩ = .ok (.loc 0) (bx g s ++ rest) := by
    unfold eVar
    simp [h1]
  simp only [eCall, aCons, aNil, v1, hf, Out.bind]
  exact e
theorem pick_ok (g s : Int) (ds : List D) (h0 : ds ≠ []) (h1 : ds.length < 1073741824) (hb : belows 1 ds = true) (hn : ∀ d ∈ ds, ∀ m, d ≠ .loc m) : ∃ (d : D) (g' s' : Int), callV 1 pickF [.loc 0, .lst ds] (bx g s) = .ok d (bx g' s') ∧ d ∈ ds := by
  obtain ⟨v, g', s', e, hv⟩ := draw_ok g s ds.length (by cases ds with
    | nil => exact absurd rfl h0
    | cons x l => simp) h1 []
  refine ⟨ds[v], g', s', ?_, List.getElem_mem hv⟩
  have ev : eOp gIx (eVar 1) (eCall 1 takeF (aCons (eVar 0) (aCons (eB hLen (aCons (eVar 1) aNil)) aNil))) ⟨[some (.loc 0), some (.lst ds)], bx g s⟩ = .ok ds[v] (bx g' s') := by
    refine eOp_of (x := .lst ds) (y := nD v) (c1 := bx g s) (c2 := bx g' s') rfl e (ix_lst (VL.atI_nat ?_))
    simp [hv]
  have hm : ds[v] ∈ ds := List.getElem_mem hv
  have hbv : below 1 ds[v] = true := by
    rw [belows_all, List.all_eq_true] at hb
    exact hb _ hm
  have p : pickF [.loc 0, .lst ds] (bx g s) = .ok ds[v] (bx g' s') := trimF_of (cs' := bx g' s') (runF_rt (st := ⟨_, _⟩) (sRet_of ev)) rfl (outD_low hbv (hn _ hm))
  have hb2 : belows 1 [.loc 0, .lst ds] = true := by simp [belows, below, hb]
  unfold callV
  rw [show [D.loc 0, .lst ds].map (lendD 1 (bx g s)) = [.loc 0, .lst ds] from rfl, show (bx g s).take 1 = bx g s from rfl, if_pos ⟨by simp, hb2, rfl⟩, p]
  show (if _ then Out.ok ds[v] (bx g' s' ++ []) else Out.no) = _
  rw [if_pos ⟨rfl, .inl hb2⟩]
  rfl
end K67

namespace K67
open PySem L2 PyProof.Rows VL
def turnB : Sx := (sSeq (sAsg (eOp gAdd (eC (.int 1)) (eCall 1 takeF (aCons (eVar 1) (aCons (eC (.int 4)) aNil)))) (gNm 3))
    (sSeq (sAsg (eLc (iR1 (aCons (eVar 3) aNil)) (gNm 5) tTrue (eCall 1 takeF (aCons (eVar 1) (aCons (eC (.int 4)) aNil))) [5]) (gNm 4))
    (sSeq (sAsg (eLc (iR1 (aCons (eVar 3) aNil)) (gNm 5) tTrue (eIf (tCmp' (gEqB false) (eCall 1 takeF (aCons (eVar 1) (aCons (eC (.int 2)) aNil))) (eC (.int 0))) (eC .non) (eCall 1 takeF (aCons (eVar 1) (aCons (eVar 3) aNil)))) [5]) (gNm 6))
    (sSeq (sAsg (eLc (iEn (aCons (eVar 6) aNil)) (gTp 2 (gsCons (gNm 5) (gsCons (gNm 7) gsNil))) tTrue (eIf (tCmp' (gEqB false) (eVar 7) (eVar 5)) (eC .non) (eVar 7)) [5, 7]) (gNm 6))
    (sSeq (sAsg (eLc (iR1 (aCons (eVar 3) aNil)) (gNm 5) (tAnd' (tCmp' (gIs false) (eOp gIx (eVar 6) (eVar 5)) (eC .non)) (tCmp' gGt (eCall 1 takeF (aCons (eVar 1) (aCons (eC (.int 4)) aNil))) (eC (.int 0)))) (eVar 5) [5]) (gNm 8))
    (sSeq (sAsg (eTup (aCons (eOp gGt (eCall 1 takeF (aCons (eVar 1) (aCons (eC (.int 3)) aNil))) (eC (.int 0))) (aCons (eCall 1 pickF (aCons (eVar 1) (aCons (eLst (aCons (eC .non) (aCons (eC (.int 1)) (aCons (eC (.int 2)) (aCons (eC (.int 3)) aNil))))) aNil))) aNil))) (gTp 2 (gsCons (gNm 9) (gsCons (gNm 10) gsNil))))
    (sSeq (sAsg (eLc (iR1 (aCons (eVar 3) aNil)) (gNm 5) tTrue (eIf (tCmp' (gIs false) (eVar 10) (eC .non)) (eC (.int 0)) (eCall 1 takeF (aCons (eVar 1) (aCons (eC (.int 5)) aNil)))) [5]) (gNm 11))
    (sSeq (sAsg (eTup (aCons (eVar 9) (aCons (eAnd (eVar 9) (eOp (gEqB false) (eCall 1 takeF (aCons (eVar 1) (aCons (eC (.int 2)) aNil))) (eC (.int 0)))) (aCons (eVar 10) aNil)))) (gNm 12))
    (sSeq (sAsg (eMake 0 turnsInitF (aCons (eOp gIx (eVar 12) (eC (.int 0))) (aCons (eOp gIx (eVar 12) (eC (.int 1))) (aCons (eOp gIx (eVar 12) (eC (.int 2))) aNil)))) (gNm 13))
    (sSeq (sAsg (eIf (tTru (eOp gIx (eVar 12) (eC (.int 1)))) (eCall 0 lentF0 (aCons (eVar 4) (aCons (eVar 6) aNil))) (eVar 4)) (gNm 14))
    (sSeq (sIf (tCmp' (gEqB true) (eB hRepr (aCons (eCall 0 ranksF (aCons (eVar 13) (aCons (eB hTuple (aCons (eVar 4) aNil)) (aCons (eB hTuple (aCons (eVar 6) aNil)) aNil)))) aNil)) (eB hRepr (aCons (eB hTuple (aCons (eLc (iL (eVar 14)) (gNm 15) tTrue (eB hInt (aCons (eVar 15) aNil)) [15]) aNil)) aNil))) (sRet (eC (.bl false))) sNil)
    (sSeq (sIf (tCmp' (gEqB true) (eCallK 0 ranksF [2, 1, 0] (aCons (eB hTuple (aCons (eVar 6) aNil)) (aCons (eB hTuple (aCons (eVar 4) aNil)) (aCons (eVar 13) aNil)))) (eB hTuple (aCons (eVar 14) aNil))) (sRet (eC (.bl false))) sNil)
    (sSeq (sAsg (eCall 0 chosenF (aCons (eVar 12) (aCons (eVar 4) (aCons (eVar 8) (aCons (eVar 6) (aCons (eVar 11) aNil)))))) (gNm 16))
    (sSeq (sIf (tCmp' (gEqB true) (eB hRepr (aCons (eCall 0 mayF (aCons (eVar 13) (aCons (eB hTuple (aCons (eVar 4) aNil)) (aCons (eB hTuple (aCons (eVar 8) aNil)) (aCons (eB hTuple (aCons (eVar 6) aNil)) (aCons (eB hTuple (aCons (eVar 11) aNil)) aNil)))))) aNil)) (eB hRepr (aCons (eB hTuple (aCons (eVar 16) aNil)) aNil))) (sRet (eC (.bl false))) sNil)
    (sSeq (sPar [17, 18] (aCons (eB hTuple (aCons (eVar 6) aNil)) (aCons (eB hTuple (aCons (eVar 11) aNil)) aNil)))
    (sSeq (sAsg (eCallK 0 mayF [4, 3, 2, 1, 0] (aCons (eVar 18) (aCons (eVar 17) (aCons (eB hTuple (aCons (eVar 8) aNil)) (aCons (eB hTuple (aCons (eVar 4) aNil)) (aCons (eVar 13) aNil)))))) (gNm 19))
    (sSeq (sIf (tCmp' (gEqB true) (eVar 19) (eB hTuple (aCons (eVar 16) aNil))) (sRet (eC (.bl false))) sNil)
    (sIf (tCmp' (gEqB true) (eVar 8) (eLst aNil)) (sSeq (sAsg (eCall 1 pickF (aCons (eVar 1) (aCons (eVar 8) aNil))) (gNm 5))
    (sSeq (sAsg (eLc (iEn (aCons (eVar 11) aNil)) (gTp 2 (gsCons (gNm 21) (gsCons (gNm 22) gsNil))) tTrue (eIf (tAnd' (tCmp' (gIn false) (eVar 21) (eVar 8)) (tCmp' (gEqB true) (eVar 21) (eVar 5))) (eOp gAdd (eVar 22) (eC (.int 1))) (eC (.int 0))) [21, 22]) (gNm 20))
    (sSeq (sAsg (eIf (tCmp' (gIs false) (eVar 10) (eC .non)) (eVar 11) (eVar 20)) (gNm 20))
    (sSeq (sIf (tCmp' (gEqB true) (eCall 0 memF (aCons (eVar 13) (aCons (eB hTuple (aCons (eVar 11) aNil)) (aCons (eB hTuple (aCons (eVar 8) aNil)) (aCons (eVar 5) aNil))))) (eB hTuple (aCons (eVar 20) aNil))) (sRet (eC (.bl false))) sNil)
    (sIf (tCmp' (gEqB true) (eCallK 0 memF [3, 2, 1, 0] (aCons (eVar 5) (aCons (eB hTuple (aCons (eVar 8) aNil)) (aCons (eB hTuple (aCons (eVar 11) aNil)) (aCons (eVar 13) aNil))))) (eB hTuple (aCons (eVar 20) aNil))) (sRet (eC (.bl false))) sNil))))) sNil))))))))))))))))))
def Inv (d0 : D) (st : S) : Prop := ∃ e2 e3 e4 e5 e6 e7 e8 e9 e10 e11 e12 e13 e14 e15 e16 e17 e18 e19 e20 e21 e22 g s, st = ⟨[some d0, some (.loc 0), e2, e3, e4, e5, e6, e7, e8, e9, e10, e11, e12, e13, e14, e15, e16, e17, e18, e19, e20, e21, e22], bx g s⟩
def Go (d0 : D) (body : Sx) (st : S) : Prop := ∃ st2, body st = .nx st2 ∧ Inv d0 st2
theorem Go.seq {d0 : D} {f g : Sx} {st st1 : S} (h : f st = .nx st1) (h2 : Go d0 g st1) : Go d0 (sSeq f g) st := by
  obtain ⟨st2, h2, i⟩ := h2
  exact ⟨st2, (sSeq_of h).trans h2, i⟩
def Ib (cs : List Cell) : Prop := ∃ g s, cs = bx g s
theorem ib_len (cs : List Cell) (h : Ib cs) : cs.length = 1 := by
  obtain ⟨g, s, rfl⟩ := h
  rfl
theorem ib_low (cs : List Cell) (h : Ib cs) : cs.all (belowC 1) = true := by
  obtain ⟨g, s, rfl⟩ := h
  rfl
theorem Go.last {d0 : D} {f : Sx} {st st1 : S} (h : f st = .nx st1) (h2 : Inv d0 st1) : Go d0 f st := ⟨st1, h, h2⟩
theorem Go.iff {d0 : D} {t : VL.Tx} {f g : Sx} {st : S} {k : Bool} {c1 : List Cell} (h : t st = .ok k c1) (h2 : Go d0 (if k then f else g) ⟨st.env, c1⟩) : Go d0 (sIf t f g) st := by
  obtain ⟨st2, h2, i⟩ := h2
  exact ⟨st2, sIf_of h h2, i⟩
theorem eCall_of {n : Nat} {fn : Fn} {ax : Ax} {st : S} {ds : List D} {c1 : List Cell} {o : Out D} (h : ax st = .ok ds c1) (h2 : callV n fn ds c1 = o) : eCall n fn ax st = o := by
  unfold eCall
  rw [h]
  exact h2
theorem eCallK_of {n : Nat} {fn : Fn} {ix : List Nat} {ax : Ax} {st : S} {ds es : List D} {c1 : List Cell} {o : Out D} (h : ax st = .ok ds c1) (hp : permD ix ds = es) (h2 : callV n fn es c1 = o) : eCallK n fn ix ax st = o := by
  unfold eCallK
  rw [h]
  subst hp
  exact h2
theorem comp_all {α : Type} {P : α → Prop} {fD : α → D} {src : Ix} {g : Gt} {f : Ex} {vs : List Nat} {env : List (Option D)} {g0 s0 : Int} {ds : List D} (hs : src ⟨env, bx g0 s0⟩ = .ok (ds, keepAll) (bx g0 s0)) (hl : ds.length < 1000) (hb : ∀ x, below 1 (fD x) = true)
    (ht : ∀ d ∈ ds, ∀ g1 s1 acc, ∃ env1, g d ⟨wipeD env vs, bx g1 s1 ++ [.lst acc]⟩ = some ⟨env1, bx g1 s1 ++ [.lst acc]⟩ ∧ ∃ x g2 s2, f ⟨env1, bx g1 s1 ++ [.lst acc]⟩ = .ok (fD x) (bx g2 s2 ++ [.lst acc]) ∧ P x) :
    ∃ (l : List α) (g' s' : Int), eLc src g tTrue f vs ⟨env, bx g0 s0⟩ = .ok (.lst (l.map fD)) (bx g' s') ∧ l.length = ds.length ∧ ∀ x ∈ l, P x := by
  obtain ⟨ys, cs', e, ⟨g', s', rfl⟩, p⟩ := eLc_eval (I := Ib) (R := fun _ o => ∃ x, P x ∧ o = some (fD x)) (src := src) (g := g) (t := tTrue) (f := f) (vs := vs) (st := ⟨env, bx g0 s0⟩) hs ⟨_, _, rfl⟩ ib_len (by omega) ib_low (fun d y h => by
    obtain ⟨x, _, e⟩ := h
    cases e
    exact hb x) (fun d hd cs acc hi => by
    obtain ⟨g1, s1, rfl⟩ := hi
    obtain ⟨env1, e1, x, g2, s2, e2, p⟩ := ht d hd g1 s1 acc
    exact ⟨env1, e1, true, bx g1 s1, rfl, ⟨_, _, rfl⟩, (fun z => by cases z), fun _ => ⟨_, _, e2, ⟨_, _, rfl⟩, x, p, rfl⟩⟩)
  obtain ⟨l, a1, a2, a3⟩ := picks_all (P := P) (f := fD) (fun d h => by
    obtain ⟨x, _, e⟩ := h
    cases e) (fun d y h => by
    obtain ⟨x, p, e⟩ := h
    cases e
    exact ⟨x, p, rfl⟩) p
  exact ⟨l, g', s', by rw [e, a3], a1, a2⟩
theorem mem_rangeD {n : Nat} {d : D} (h : d ∈ (List.range n).map nD) : ∃ k, k < n ∧ d = nD k := by
  obtain ⟨k, hk, rfl⟩ := List.mem_map.mp h
  exact ⟨k, List.mem_range.mp hk, rfl⟩
theorem sAsg_tp2 {fa : Ex} {st : S} {i j : Nat} {x y : D} {c1 : List Cell} (h : fa st = .ok (.tup [x, y]) c1) : sAsg fa (gTp 2 (gsCons (gNm i) (gsCons (gNm j) gsNil))) st = .nx ⟨(st.env.set i (some x)).set j (some y), c1⟩ := by
  unfold sAsg
  rw [h]
  simp [thenS, asg, gTp, gsCons, gsNil, gNm]
theorem eqNon {cs : List Cell} {i : Int} : gEqB false cs .non (.int i) = .ok (.bl false) cs := by
  simp [gEqB, norm, VL.plain, py, SeqAt.shaped, PyData.canLay0, PyData.depth, PyData.eqv]
set_option maxHeartbeats 4000000 in
theorem go_ok (d0 dt : D) (e2 e3 e4 e5 e6 e7 e8 e9 e10 e11 e12 e13 e14 e15 e16 e17 e18 e19 e20 e21 e22 : Option D) (g s : Int) : Go d0 turnB ⟨[some d0, some (.loc 0), some dt, e3, e4, e5, e6, e7, e8, e9, e10, e11, e12, e13, e14, e15, e16, e17, e18, e19, e20, e21, e22], bx g s⟩ := by
  unfold turnB
  -- many
  obtain ⟨v, g1, s1, ev, hv⟩ := drawE (env := [some d0, some (.loc 0), some dt, e3, e4, e5, e6, e7, e8, e9, e10, e11, e12, e13, e14, e15, e16, e17, e18, e19, e20, e21, e22]) (rest := []) (g := g) (s := s) (m := 4) (f := eC (.int 4)) rfl rfl (by decide) (by decide)
  refine Go.seq (sAsg_nm (eOp_of (c1 := bx g s) (x := .int 1) rfl ev (o := .ok (nD (1 + v)) (bx g1 s1)) (by
    show Out.ok (D.int (1 + (v : Int))) (bx g1 s1) = Out.ok (D.int ((1 + v : Nat) : Int)) (bx g1 s1)
    rw [Int.natCast_add]
    rfl))) ?_
  obtain ⟨n, hn⟩ : ∃ n, 1 + v = n := ⟨_, rfl⟩
  rw [hn]
  have n0 : 0 < n := by omega
  have n4 : n < 5 := by omega
  clear ev hn hv v
  simp only [List.set_cons_zero, List.set_cons_succ]
  -- ranks
  obtain ⟨r, g2, s2, er, lr, hr⟩ := comp_all (P := fun k => k < 4) (fD := nD) (src := iR1 (aCons (eVar 3) aNil)) (g := gNm 5) (f := eCall 1 takeF (aCons (eVar 1) (aCons (eC (.int 4)) aNil))) (vs := [5]) (env := [some d0, some (.loc 0), some dt, some (nD n), e4, e5, e6, e7, e8, e9, e10, e11, e12, e13, e14, e15, e16, e17, e18, e19, e20, e21, e22]) (g0 := g1) (s0 := s1) (iR1_nat rfl (by omega)) (by simp; omega) (fun _ => rfl) (by
    rintro d hd g1 s1 acc
    exact ⟨(wipeD [some d0, some (.loc 0), some dt, some (nD n), e4, e5, e6, e7, e8, e9, e10, e11, e12, e13, e14, e15, e16, e17, e18, e19, e20, e21, e22] [5]).set 5 (some d), rfl, drawE (m := 4) rfl rfl (by decide) (by decide)⟩)
  refine Go.seq (sAsg_nm er) ?_
  simp only [List.set_cons_zero, List.set_cons_succ]
  -- waits
  obtain ⟨w0, g3, s3, ew0, lw0, hw0⟩ := comp_all (P := fun o => ∀ k, o = some k → k < n) (fD := oD) (src := iR1 (aCons (eVar 3) aNil)) (g := gNm 5) (f := eIf (tCmp' (gEqB false) (eCall 1 takeF (aCons (eVar 1) (aCons (eC (.int 2)) aNil))) (eC (.int 0))) (eC .non) (eCall 1 takeF (aCons (eVar 1) (aCons (eVar 3) aNil)))) (vs := [5]) (env := [some d0, some (.loc 0), some dt, some (nD n), some (.lst (r.map nD)), e5, e6, e7, e8, e9, e10, e11, e12, e13, e14, e15, e16, e17, e18, e19, e20, e21, e22]) (g0 := g2) (s0 := s2) (iR1_nat rfl (by omega)) (by simp; omega) (fun o => below_oD) (by
    rintro d hd g1 s1 acc
    refine ⟨(wipeD [some d0, some (.loc 0), some dt, some (nD n), some (.lst (r.map nD)), e5, e6, e7, e8, e9, e10, e11, e12, e13, e14, e15, e16, e17, e18, e19, e20, e21, e22] [5]).set 5 (some d), rfl, ?_⟩
    obtain ⟨v, g2, s2, e, hv⟩ := drawE (rest := [.lst acc]) (g := g1) (s := s1) (m := 2) (f := eC (.int 2)) (env := (wipeD [some d0, some (.loc 0), some dt, some (nD n), some (.lst (r.map nD)), e5, e6, e7, e8, e9, e10, e11, e12, e13, e14, e15, e16, e17, e18, e19, e20, e21, e22] [5]).set 5 (some d)) rfl rfl (by decide) (by decide)
    cases cv : ((v : Int) == 0) with
    | true => exact ⟨none, g2, s2, eIf_of (k := true) (c1 := bx g2 s2 ++ [.lst acc]) (tCmp_of (eOp_of e rfl (eqI.trans (by rw [cv]; rfl)))) rfl, fun k z => by cases z⟩
    | false =>
      obtain ⟨u, g3, s3, e', hu⟩ := drawE (rest := [.lst acc]) (g := g2) (s := s2) (m := n) (f := eVar 3) (env := (wipeD [some d0, some (.loc 0), some dt, some (nD n), some (.lst (r.map nD)), e5, e6, e7, e8, e9, e10, e11, e12, e13, e14, e15, e16, e17, e18, e19, e20, e21, e22] [5]).set 5 (some d)) rfl rfl (by omega) (by omega)
      exact ⟨some u, g3, s3, eIf_of (k := false) (c1 := bx g2 s2 ++ [Cell.lst acc]) (tCmp_of (eOp_of e rfl (eqI.trans (by rw [cv]; rfl)))) (by exact e'), fun k z => by cases z; exact hu⟩)
  refine Go.seq (sAsg_nm ew0) ?_
  simp only [List.set_cons_zero, List.set_cons_succ]
  obtain ⟨ws, g4, s4, ew, lw, hw⟩ := comp_all (P := fun o => ∀ k, o = some k → k < n) (fD := oD) (src := iEn (aCons (eVar 6) aNil)) (g := gTp 2 (gsCons (gNm 5) (gsCons (gNm 7) gsNil))) (f := eIf (tCmp' (gEqB false) (eVar 7) (eVar 5)) (eC .non) (eVar 7)) (vs := [5, 7]) (env := [some d0, some (.loc 0), some dt, some (nD n), some (.lst (r.map nD)), e5, some (.lst (w0.map oD)), e7, e8, e9, e10, e11, e12, e13, e14, e15, e16, e17, e18, e19, e20, e21, e22]) (g0 := g3) (s0 := s3) ((iEn_of (ds := w0.map oD) rfl).trans (by rw [enumD_map])) (by simp [lw0]; omega) (fun o => below_oD) (by
    rintro d hd g1 s1 acc
    obtain ⟨⟨o, i⟩, hp, rfl⟩ := List.mem_map.mp hd
    have ho : o ∈ w0 := by
      have := List.mem_zipIdx hp
      simp at this
      obtain ⟨_, q⟩ := this
      rw [q]
      exact List.getElem_mem _
    refine ⟨((wipeD [some d0, some (.loc 0), some dt, some (nD n), some (.lst (r.map nD)), e5, some (.lst (w0.map oD)), e7, e8, e9, e10, e11, e12, e13, e14, e15, e16, e17, e18, e19, e20, e21, e22] [5, 7]).set 5 (some (nD i))).set 7 (some (oD o)), rfl, ?_⟩
    cases o with
    | none => exact ⟨none, g1, s1, eIf_of (k := false) (c1 := bx g1 s1 ++ [.lst acc]) (tCmp_of (eOp_of (x := .non) (y := nD i) (c1 := bx g1 s1 ++ [.lst acc]) (c2 := bx g1 s1 ++ [.lst acc]) rfl rfl eqNon)) rfl, fun k z => by cases z⟩
    | some k =>
      cases cv : ((k : Int) == (i : Int)) with
      | true => exact ⟨none, g1, s1, eIf_of (k := true) (c1 := bx g1 s1 ++ [.lst acc]) (tCmp_of (eOp_of (x := nD k) (y := nD i) (c1 := bx g1 s1 ++ [.lst acc]) (c2 := bx g1 s1 ++ [.lst acc]) rfl rfl (eqI.trans (by rw [cv]; rfl)))) rfl, fun k z => by cases z⟩
      | false => exact ⟨some k, g1, s1, eIf_of (k := false) (c1 := bx g1 s1 ++ [.lst acc]) (tCmp_of (eOp_of (x := nD k) (y := nD i) (c1 := bx g1 s1 ++ [.lst acc]) (c2 := bx g1 s1 ++ [.lst acc]) rfl rfl (eqI.trans (by rw [cv]; rfl)))) rfl, fun k' z => by cases z; exact hw0 _ ho k rfl⟩)
  refine Go.seq (sAsg_nm ew) ?_
  simp only [List.set_cons_zero, List.set_cons_succ]
  have lw : ws.length = n := by rw [lw]; simp [lw0]
  have lr : r.length = n := by simpa using lr
  have hW : Ws ws := ⟨by omega, fun k hk => by rw [lw]; exact hw _ hk k rfl⟩
  -- able
  obtain ⟨ys, cs', ea, ⟨g5, s5, rfl⟩, p⟩ := eLc_eval (I := Ib) (R := fun _ o => ∀ y, o = some y → ∃ k, k < n ∧ y = nD k) (src := iR1 (aCons (eVar 3) aNil)) (g := gNm 5) (t := tAnd' (tCmp' (gIs false) (eOp gIx (eVar 6) (eVar 5)) (eC .non)) (tCmp' gGt (eCall 1 takeF (aCons (eVar 1) (aCons (eC (.int 4)) aNil))) (eC (.int 0)))) (f := eVar 5) (vs := [5]) (st := ⟨[some d0, some (.loc 0), some dt, some (nD n), some (.lst (r.map nD)), e5, some (.lst (ws.map oD)), e7, e8, e9, e10, e11, e12, e13, e14, e15, e16, e17, e18, e19, e20, e21, e22], bx g4 s4⟩) (iR1_nat rfl (by omega)) ⟨_, _, rfl⟩ ib_len (by simp; omega) ib_low (fun d y h => by
    obtain ⟨k, _, rfl⟩ := h y rfl
    rfl) (fun d hd cs acc hi => by
    obtain ⟨g1, s1, rfl⟩ := hi
    obtain ⟨k, hk, rfl⟩ := mem_rangeD hd
    refine ⟨(wipeD [some d0, some (.loc 0), some dt, some (nD n), some (.lst (r.map nD)), e5, some (.lst (ws.map oD)), e7, e8, e9, e10, e11, e12, e13, e14, e15, e16, e17, e18, e19, e20, e21, e22] [5]).set 5 (some (nD k)), rfl, ?_⟩
    obtain ⟨o, ho⟩ : ∃ o, ws[k]? = some o := ⟨ws[k]'(by omega), List.getElem?_eq_getElem _⟩
    have ix : eOp gIx (eVar 6) (eVar 5) ⟨(wipeD [some d0, some (.loc 0), some dt, some (nD n), some (.lst (r.map nD)), e5, some (.lst (ws.map oD)), e7, e8, e9, e10, e11, e12, e13, e14, e15, e16, e17, e18, e19, e20, e21, e22] [5]).set 5 (some (nD k)), bx g1 s1 ++ [.lst acc]⟩ = .ok (oD o) (bx g1 s1 ++ [.lst acc]) := eOp_of (x := .lst (ws.map oD)) (y := nD k) (c1 := bx g1 s1 ++ [.lst acc]) (c2 := bx g1 s1 ++ [.lst acc]) rfl rfl (ix_lst (atI_map ho))
    cases o with
    | some j => exact ⟨false, bx g1 s1, tAnd_of (k := false) (k2 := false) (c1 := bx g1 s1 ++ [.lst acc]) (tCmp_of (eOp_of ix rfl rfl)) (fun z => by cases z) (fun _ => rfl), ⟨_, _, rfl⟩, (fun _ y z => by cases z), fun z => by cases z⟩
    | none =>
      obtain ⟨v, g2, s2, e, hv⟩ := drawE (rest := [.lst acc]) (g := g1) (s := s1) (m := 4) (f := eC (.int 4)) (env := (wipeD [some d0, some (.loc 0), some dt, some (nD n), some (.lst (r.map nD)), e5, some (.lst (ws.map oD)), e7, e8, e9, e10, e11, e12, e13, e14, e15, e16, e17, e18, e19, e20, e21, e22] [5]).set 5 (some (nD k))) rfl rfl (by decide) (by decide)
      exact ⟨decide ((0 : Int) < v), bx g2 s2, tAnd_of (k := true) (k2 := decide ((0 : Int) < v)) (c1 := bx g1 s1 ++ [.lst acc]) (tCmp_of (eOp_of ix rfl rfl)) (fun _ => tCmp_of (eOp_of e rfl rfl)) (fun z => by cases z), ⟨_, _, rfl⟩, (fun _ y z => by cases z), fun _ => ⟨nD k, bx g2 s2, rfl, ⟨_, _, rfl⟩, fun y z => ⟨k, hk, by cases z; rfl⟩⟩⟩)
  obtain ⟨able, la, ha, rfl⟩ := picks_some (P := fun k => k < n) (f := nD) (fun d y h => h y rfl) p
  refine Go.seq (sAsg_nm ea) ?_
  simp only [List.set_cons_zero, List.set_cons_succ]
  have la : able.length < 5 := by simp at la; omega
  -- ranked, fair
  obtain ⟨v, g6, s6, e6', hv⟩ := drawE (rest := []) (g := g5) (s := s5) (m := 3) (f := eC (.int 3)) (env := [some d0, some (.loc 0), some dt, some (nD n), some (.lst (r.map nD)), e5, some (.lst (ws.map oD)), e7, some (.lst (able.map nD)), e9, e10, e11, e12, e13, e14, e15, e16, e17, e18, e19, e20, e21, e22]) rfl rfl (by decide) (by decide)
  obtain ⟨pd, g7, s7, e7', hp⟩ := pick_ok g6 s6 [.non, .int 1, .int 2, .int 3] (by simp) (by simp) rfl (fun d hd m z => by
    subst z
    simp at hd)
  obtain ⟨fa, rfl, hfa⟩ : ∃ fa : Option Nat, pd = oD fa ∧ ∀ k, fa = some k → 0 < k := by
    simp only [List.mem_cons, List.not_mem_nil, or_false] at hp
    rcases hp with rfl | rfl | rfl | rfl
    · exact ⟨none, rfl, fun k z => by cases z⟩
    · exact ⟨some 1, rfl, fun k z => by cases z; decide⟩
    · exact ⟨some 2, rfl, fun k z => by cases z; decide⟩
    · exact ⟨some 3, rfl, fun k z => by cases z; decide⟩
  obtain ⟨ra, hra⟩ : ∃ ra, decide ((0 : Int) < v) = ra := ⟨_, rfl⟩
  have e8' : eTup (aCons (eOp gGt (eCall 1 takeF (aCons (eVar 1) (aCons (eC (.int 3)) aNil))) (eC (.int 0))) (aCons (eCall 1 pickF (aCons (eVar 1) (aCons (eLst (aCons (eC .non) (aCons (eC (.int 1)) (aCons (eC (.int 2)) (aCons (eC (.int 3)) aNil))))) aNil))) aNil)) ⟨[some d0, some (.loc 0), some dt, some (nD n), some (.lst (r.map nD)), e5, some (.lst (ws.map oD)), e7, some (.lst (able.map nD)), e9, e10, e11, e12, e13, e14, e15, e16, e17, e18, e19, e20, e21, e22], bx g5 s5⟩ = .ok (.tup [.bl ra, oD fa]) (bx g7 s7) := by
    have q1 : eOp gGt (eCall 1 takeF (aCons (eVar 1) (aCons (eC (.int 3)) aNil))) (eC (.int 0)) ⟨[some d0, some (.loc 0), some dt, some (nD n), some (.lst (r.map nD)), e5, some (.lst (ws.map oD)), e7, some (.lst (able.map nD)), e9, e10, e11, e12, e13, e14, e15, e16, e17, e18, e19, e20, e21, e22], bx g5 s5⟩ = .ok (.bl ra) (bx g6 s6) := eOp_of (c1 := bx g6 s6) (c2 := bx g6 s6) e6' rfl (by rw [← hra]; rfl)
    have q2 : eCall 1 pickF (aCons (eVar 1) (aCons (eLst (aCons (eC .non) (aCons (eC (.int 1)) (aCons (eC (.int 2)) (aCons (eC (.int 3)) aNil))))) aNil)) ⟨[some d0, some (.loc 0), some dt, some (nD n), some (.lst (r.map nD)), e5, some (.lst (ws.map oD)), e7, some (.lst (able.map nD)), e9, e10, e11, e12, e13, e14, e15, e16, e17, e18, e19, e20, e21, e22], bx g6 s6⟩ = .ok (oD fa) (bx g7 s7) := eCall_of (ds := [.loc 0, .lst [.non, .int 1, .int 2, .int 3]]) (c1 := bx g6 s6) rfl e7'
    simp only [eTup, aCons, aNil] at q2 ⊢
    rw [q1]
    simp only [Out.bind] at q2 ⊢
    rw [q2]
    rfl
  refine Go.seq (sAsg_tp2 e8') ?_
  simp only [List.set_cons_zero, List.set_cons_succ]
  clear e6' e7' e8' hp
  -- memory
  obtain ⟨mem, g8, s8, em, lm, _⟩ := comp_all (P := fun _ => True) (fD := nD) (src := iR1 (aCons (eVar 3) aNil)) (g := gNm 5) (f := eIf (tCmp' (gIs false) (eVar 10) (eC .non)) (eC (.int 0)) (eCall 1 takeF (aCons (eVar 1) (aCons (eC (.int 5)) aNil)))) (vs := [5]) (env := [some d0, some (.loc 0), some dt, some (nD n), some (.lst (r.map nD)), e5, some (.lst (ws.map oD)), e7, some (.lst (able.map nD)), some (.bl ra), some (oD fa), e11, e12, e13, e14, e15, e16, e17, e18, e19, e20, e21, e22]) (g0 := g7) (s0 := s7) (iR1_nat rfl (by omega)) (by simp; omega) (fun _ => rfl) (by
    rintro d hd g1 s1 acc
    refine ⟨(wipeD [some d0, some (.loc 0), some dt, some (nD n), some (.lst (r.map nD)), e5, some (.lst (ws.map oD)), e7, some (.lst (able.map nD)), some (.bl ra), some (oD fa), e11, e12, e13, e14, e15, e16, e17, e18, e19, e20, e21, e22] [5]).set 5 (some d), rfl, ?_⟩
    cases fa with
    | none => exact ⟨0, g1, s1, eIf_of (k := true) (c1 := bx g1 s1 ++ [.lst acc]) (tCmp_of (eOp_of (x := .non) (y := .non) (c1 := bx g1 s1 ++ [.lst acc]) (c2 := bx g1 s1 ++ [.lst acc]) rfl rfl rfl)) rfl, trivial⟩
    | some k =>
      obtain ⟨v, g2, s2, e, hv⟩ := drawE (rest := [.lst acc]) (g := g1) (s := s1) (m := 5) (f := eC (.int 5)) (env := (wipeD [some d0, some (.loc 0), some dt, some (nD n), some (.lst (r.map nD)), e5, some (.lst (ws.map oD)), e7, some (.lst (able.map nD)), some (.bl ra), some (oD (some k)), e11, e12, e13, e14, e15, e16, e17, e18, e19, e20, e21, e22] [5]).set 5 (some d)) rfl rfl (by decide) (by decide)
      exact ⟨v, g2, s2, eIf_of (k := false) (c1 := bx g1 s1 ++ [Cell.lst acc]) (tCmp_of (eOp_of (x := nD k) (y := .non) (c1 := bx g1 s1 ++ [.lst acc]) (c2 := bx g1 s1 ++ [.lst acc]) rfl rfl rfl)) (by exact e), trivial⟩)
  refine Go.seq (sAsg_nm em) ?_
  simp only [List.set_cons_zero, List.set_cons_succ]
  have lm : mem.length = n := by simpa using lm
  -- told
  obtain ⟨le, g9, s9, et, hle⟩ : ∃ (le : Bool) (g9 s9 : Int), eTup (aCons (eVar 9) (aCons (eAnd (eVar 9) (eOp (gEqB false) (eCall 1 takeF (aCons (eVar 1) (aCons (eC (.int 2)) aNil))) (eC (.int 0)))) (aCons (eVar 10) aNil))) ⟨[some d0, some (.loc 0), some dt, some (nD n), some (.lst (r.map nD)), e5, some (.lst (ws.map oD)), e7, some (.lst (able.map nD)), some (.bl ra), some (oD fa), some (.lst (mem.map nD)), e12, e13, e14, e15, e16, e17, e18, e19, e20, e21, e22], bx g8 s8⟩ = .ok (tT ra le fa) (bx g9 s9) ∧ (le = true → ra = true) := by
    clear hra
    cases ra with
    | false => exact ⟨false, g8, s8, rfl, fun z => z⟩
    | true =>
      obtain ⟨v, g9, s9, e, hv⟩ := drawE (rest := []) (g := g8) (s := s8) (m := 2) (f := eC (.int 2)) (env := [some d0, some (.loc 0), some dt, some (nD n), some (.lst (r.map nD)), e5, some (.lst (ws.map oD)), e7, some (.lst (able.map nD)), some (.bl true), some (oD fa), some (.lst (mem.map nD)), e12, e13, e14, e15, e16, e17, e18, e19, e20, e21, e22]) rfl rfl (by decide) (by decide)
      have q1 : eAnd (eVar 9) (eOp (gEqB false) (eCall 1 takeF (aCons (eVar 1) (aCons (eC (.int 2)) aNil))) (eC (.int 0))) ⟨[some d0, some (.loc 0), some dt, some (nD n), some (.lst (r.map nD)), e5, some (.lst (ws.map oD)), e7, some (.lst (able.map nD)), some (.bl true), some (oD fa), some (.lst (mem.map nD)), e12, e13, e14, e15, e16, e17, e18, e19, e20, e21, e22], bx g8 s8⟩ = .ok (.bl ((v : Int) == 0)) (bx g9 s9) := eOp_of (c1 := bx g9 s9) (c2 := bx g9 s9) e rfl eqI
      refine ⟨(v : Int) == 0, g9, s9, ?_, fun _ => rfl⟩
      have q0 : eVar 9 ⟨[some d0, some (.loc 0), some dt, some (nD n), some (.lst (r.map nD)), e5, some (.lst (ws.map oD)), e7, some (.lst (able.map nD)), some (.bl true), some (oD fa), some (.lst (mem.map nD)), e12, e13, e14, e15, e16, e17, e18, e19, e20, e21, e22], bx g8 s8⟩ = .ok (.bl true) (bx g8 s8) := rfl
      have q2 : eVar 10 ⟨[some d0, some (.loc 0), some dt, some (nD n), some (.lst (r.map nD)), e5, some (.lst (ws.map oD)), e7, some (.lst (able.map nD)), some (.bl true), some (oD fa), some (.lst (mem.map nD)), e12, e13, e14, e15, e16, e17, e18, e19, e20, e21, e22], bx g9 s9⟩ = .ok (oD fa) (bx g9 s9) := rfl
      simp only [eTup, aCons, aNil, q0, q1, q2, Out.bind]
      rfl
  refine Go.seq (sAsg_nm et) ?_
  simp only [List.set_cons_zero, List.set_cons_succ]
  -- made
  have emk : eMake 0 turnsInitF (aCons (eOp gIx (eVar 12) (eC (.int 0))) (aCons (eOp gIx (eVar 12) (eC (.int 1))) (aCons (eOp gIx (eVar 12) (eC (.int 2))) aNil))) ⟨[some d0, some (.loc 0), some dt, some (nD n), some (.lst (r.map nD)), e5, some (.lst (ws.map oD)), e7, some (.lst (able.map nD)), some (.bl ra), some (oD fa), some (.lst (mem.map nD)), some (tT ra le fa), e13, e14, e15, e16, e17, e18, e19, e20, e21, e22], bx g9 s9⟩ = .ok (tO ra le fa) (bx g9 s9) := by
    have q0 : eOp gIx (eVar 12) (eC (.int 0)) ⟨[some d0, some (.loc 0), some dt, some (nD n), some (.lst (r.map nD)), e5, some (.lst (ws.map oD)), e7, some (.lst (able.map nD)), some (.bl ra), some (oD fa), some (.lst (mem.map nD)), some (tT ra le fa), e13, e14, e15, e16, e17, e18, e19, e20, e21, e22], bx g9 s9⟩ = .ok (.bl ra) (bx g9 s9) := rfl
    have q1 : eOp gIx (eVar 12) (eC (.int 1)) ⟨[some d0, some (.loc 0), some dt, some (nD n), some (.lst (r.map nD)), e5, some (.lst (ws.map oD)), e7, some (.lst (able.map nD)), some (.bl ra), some (oD fa), some (.lst (mem.map nD)), some (tT ra le fa), e13, e14, e15, e16, e17, e18, e19, e20, e21, e22], bx g9 s9⟩ = .ok (.bl le) (bx g9 s9) := rfl
    have q2 : eOp gIx (eVar 12) (eC (.int 2)) ⟨[some d0, some (.loc 0), some dt, some (nD n), some (.lst (r.map nD)), e5, some (.lst (ws.map oD)), e7, some (.lst (able.map nD)), some (.bl ra), some (oD fa), some (.lst (mem.map nD)), some (tT ra le fa), e13, e14, e15, e16, e17, e18, e19, e20, e21, e22], bx g9 s9⟩ = .ok (oD fa) (bx g9 s9) := rfl
    simp only [eMake, aCons, aNil, q0, q1, q2, Out.bind]
    exact turns_ok ra le fa hle hfa g9 s9
  refine Go.seq (sAsg_nm emk) ?_
  simp only [List.set_cons_zero, List.set_cons_succ]
  -- due
  obtain ⟨due, hdue⟩ : ∃ due, (if le then lentM r ws else r) = due := ⟨_, rfl⟩
  have ed : eIf (tTru (eOp gIx (eVar 12) (eC (.int 1)))) (eCall 0 lentF0 (aCons (eVar 4) (aCons (eVar 6) aNil))) (eVar 4) ⟨[some d0, some (.loc 0), some dt, some (nD n), some (.lst (r.map nD)), e5, some (.lst (ws.map oD)), e7, some (.lst (able.map nD)), some (.bl ra), some (oD fa), some (.lst (mem.map nD)), some (tT ra le fa), some (tO ra le fa), e14, e15, e16, e17, e18, e19, e20, e21, e22], bx g9 s9⟩ = .ok (.lst (due.map nD)) (bx g9 s9) := by
    rw [← hdue]
    refine eIf_of (k := le) (c1 := bx g9 s9) (tTru_of (x := .bl le) (eOp_of (x := tT ra le fa) (y := .int 1) (c1 := bx g9 s9) (c2 := bx g9 s9) rfl rfl rfl) rfl) ?_
    cases le with
    | false => rfl
    | true =>
      rw [if_pos rfl, if_pos rfl]
      exact eCall_of (ds := [.lst (r.map nD), .lst (ws.map oD)]) (c1 := bx g9 s9) rfl (call_lent hW (lr.trans lw.symm) (bx g9 s9))
  refine Go.seq (sAsg_nm ed) ?_
  simp only [List.set_cons_zero, List.set_cons_succ]
  have ld : due.length = n := by
    rw [← hdue]
    cases le with
    | false => exact lr
    | true => exact lentM_len.trans lr
  have hd4 : ∀ k ∈ due, k < 4 := by
    rw [← hdue]
    cases le with
    | false => exact hr
    | true => exact lentM_lt hr
  have hD : Dt r ws able mem := ⟨hW, lr.trans lw.symm, lm.trans lw.symm, la, fun t ht => by rw [lw]; exact ha t ht⟩
  have er1 : eCall 0 ranksF (aCons (eVar 13) (aCons (eB hTuple (aCons (eVar 4) aNil)) (aCons (eB hTuple (aCons (eVar 6) aNil)) aNil))) ⟨[some d0, some (.loc 0), some dt, some (nD n), some (.lst (r.map nD)), e5, some (.lst (ws.map oD)), e7, some (.lst (able.map nD)), some (.bl ra), some (oD fa), some (.lst (mem.map nD)), some (tT ra le fa), some (tO ra le fa), some (.lst (due.map nD)), e15, e16, e17, e18, e19, e20, e21, e22], bx g9 s9⟩ = .ok (.tup (due.map nD)) (bx g9 s9) := eCall_of (ds := [tO ra le fa, .tup (r.map nD), .tup (ws.map oD)]) (c1 := bx g9 s9) rfl ((call_ranks hW (lr.trans lw.symm) (bx g9 s9)).trans (by rw [hdue]))
  have er2 : eCallK 0 ranksF [2, 1, 0] (aCons (eB hTuple (aCons (eVar 6) aNil)) (aCons (eB hTuple (aCons (eVar 4) aNil)) (aCons (eVar 13) aNil))) ⟨[some d0, some (.loc 0), some dt, some (nD n), some (.lst (r.map nD)), e5, some (.lst (ws.map oD)), e7, some (.lst (able.map nD)), some (.bl ra), some (oD fa), some (.lst (mem.map nD)), some (tT ra le fa), some (tO ra le fa), some (.lst (due.map nD)), e15, e16, e17, e18, e19, e20, e21, e22], bx g9 s9⟩ = .ok (.tup (due.map nD)) (bx g9 s9) := eCallK_of (ds := [.tup (ws.map oD), .tup (r.map nD), tO ra le fa]) (c1 := bx g9 s9) rfl rfl ((call_ranks hW (lr.trans lw.symm) (bx g9 s9)).trans (by rw [hdue]))
  have el : eLc (iL (eVar 14)) (gNm 15) tTrue (eB hInt (aCons (eVar 15) aNil)) [15] ⟨[some d0, some (.loc 0), some dt, some (nD n), some (.lst (r.map nD)), e5, some (.lst (ws.map oD)), e7, some (.lst (able.map nD)), some (.bl ra), some (oD fa), some (.lst (mem.map nD)), some (tT ra le fa), some (tO ra le fa), some (.lst (due.map nD)), e15, e16, e17, e18, e19, e20, e21, e22], bx g9 s9⟩ = .ok (.lst (due.map nD)) (bx g9 s9) := by
    have e := eLc_map (src := iL (eVar 14)) (g := gNm 15) (t := tTrue) (f := eB hInt (aCons (eVar 15) aNil)) (vs := [15]) (st := ⟨[some d0, some (.loc 0), some dt, some (nD n), some (.lst (r.map nD)), e5, some (.lst (ws.map oD)), e7, some (.lst (able.map nD)), some (.bl ra), some (oD fa), some (.lst (mem.map nD)), some (tT ra le fa), some (tO ra le fa), some (.lst (due.map nD)), e15, e16, e17, e18, e19, e20, e21, e22], bx g9 s9⟩) (xs := due) (fD := nD) (c1 := bx g9 s9) (q := fun _ => true) (h := nD) (iL_of rfl) (by omega) rfl (fun _ _ _ => rfl) (fun t ht acc => ⟨_, rfl, rfl, fun _ => rfl⟩)
    rw [e, List.filter_eq_self.mpr (by simp)]
  have rp := repr_ok (l := due) (cs := bx g9 s9) (by omega) hd4
  refine Go.seq (skip_of (c1 := bx g9 s9) (tCmp_of (eOp_of (eB1_of er1 rp.1) (eB1_of (eB1_of el rfl) rp.1) (rp.2 true)))) ?_
  refine Go.seq (skip_of (c1 := bx g9 s9) (tCmp_of (eOp_of er2 (y := .tup (due.map nD)) (c2 := bx g9 s9) rfl (eqT_same nD_ints)))) ?_
  -- chosen
  obtain ⟨cho, hcho⟩ : ∃ cho, choM ra le fa r ws able mem = cho := ⟨_, rfl⟩
  have lc := choM_low (ra := ra) (le := le) (fa := fa) (r := r) (ws := ws) (able := able) (mem := mem)
  rw [hcho] at lc
  refine Go.seq (sAsg_nm (d := .lst (cho.map nD)) (c1 := bx g9 s9) (eCall_of (ds := [tT ra le fa, .lst (r.map nD), .lst (able.map nD), .lst (ws.map oD), .lst (mem.map nD)]) (c1 := bx g9 s9) rfl ((cho_ok hD (bx g9 s9)).trans (by rw [hcho])))) ?_
  simp only [List.set_cons_zero, List.set_cons_succ]
  have em1 : eCall 0 mayF (aCons (eVar 13) (aCons (eB hTuple (aCons (eVar 4) aNil)) (aCons (eB hTuple (aCons (eVar 8) aNil)) (aCons (eB hTuple (aCons (eVar 6) aNil)) (aCons (eB hTuple (aCons (eVar 11) aNil)) aNil))))) ⟨[some d0, some (.loc 0), some dt, some (nD n), some (.lst (r.map nD)), e5, some (.lst (ws.map oD)), e7, some (.lst (able.map nD)), some (.bl ra), some (oD fa), some (.lst (mem.map nD)), some (tT ra le fa), some (tO ra le fa), some (.lst (due.map nD)), e15, some (.lst (cho.map nD)), e17, e18, e19, e20, e21, e22], bx g9 s9⟩ = .ok (.tup (cho.map nD)) (bx g9 s9) := eCall_of (ds := [tO ra le fa, .tup (r.map nD), .tup (able.map nD), .tup (ws.map oD), .tup (mem.map nD)]) (c1 := bx g9 s9) rfl ((may_ok hD (bx g9 s9)).trans (by rw [hcho]))
  have rp := repr_ok (l := cho) (cs := bx g9 s9) (by omega) (fun k hk => by have := ha k (lc.1 k hk); omega)
  refine Go.seq (skip_of (c1 := bx g9 s9) (tCmp_of (eOp_of (eB1_of em1 rp.1) (eB1_of (x := .tup (cho.map nD)) (c1 := bx g9 s9) rfl rp.1) (rp.2 true)))) ?_
  refine Go.seq (st1 := ⟨[some d0, some (.loc 0), some dt, some (nD n), some (.lst (r.map nD)), e5, some (.lst (ws.map oD)), e7, some (.lst (able.map nD)), some (.bl ra), some (oD fa), some (.lst (mem.map nD)), some (tT ra le fa), some (tO ra le fa), some (.lst (due.map nD)), e15, some (.lst (cho.map nD)), some (.tup (ws.map oD)), some (.tup (mem.map nD)), e19, e20, e21, e22], bx g9 s9⟩) rfl ?_
  refine Go.seq (sAsg_nm (d := .tup (cho.map nD)) (c1 := bx g9 s9) (eCallK_of (ds := [.tup (mem.map nD), .tup (ws.map oD), .tup (able.map nD), .tup (r.map nD), tO ra le fa]) (c1 := bx g9 s9) rfl rfl ((may_ok hD (bx g9 s9)).trans (by rw [hcho])))) ?_
  simp only [List.set_cons_zero, List.set_cons_succ]
  refine Go.seq (skip_of (c1 := bx g9 s9) (tCmp_of (eOp_of (x := .tup (cho.map nD)) (y := .tup (cho.map nD)) (c1 := bx g9 s9) (c2 := bx g9 s9) rfl rfl (eqT_same nD_ints)))) ?_
  by_cases h0 : able = []
  · refine Go.iff (k := false) (c1 := bx g9 s9) (tCmp_of (eOp_of (x := .lst (able.map nD)) (y := .lst []) (c1 := bx g9 s9) (c2 := bx g9 s9) rfl rfl (eqNil.trans (by rw [h0]; rfl)))) ?_
    exact ⟨_, rfl, ⟨_, _, _, _, _, _, _, _, _, _, _, _, _, _, _, _, _, _, _, _, _, _, _, rfl⟩⟩
  refine Go.iff (k := true) (c1 := bx g9 s9) (tCmp_of (eOp_of (x := .lst (able.map nD)) (y := .lst []) (c1 := bx g9 s9) (c2 := bx g9 s9) rfl rfl (eqNil.trans (by
    cases able with
    | nil => exact absurd rfl h0
    | cons k l => rfl)))) ?_
  rw [if_pos rfl]
  obtain ⟨td, g10, s10, ep, htd⟩ := pick_ok g9 s9 (able.map nD) (by simpa using h0) (by simp; omega) belows_nD (fun d hd m z => by
    obtain ⟨k, _, rfl⟩ := List.mem_map.mp hd
    cases z)
  obtain ⟨task, htask, rfl⟩ := List.mem_map.mp htd
  refine Go.seq (sAsg_nm (d := nD task) (c1 := bx g10 s10) (eCall_of (ds := [.loc 0, .lst (able.map nD)]) (c1 := bx g9 s9) rfl ep)) ?_
  simp only [List.set_cons_zero, List.set_cons_succ]
  have ea2 := aft_ok (env := [some d0, some (.loc 0), some dt, some (nD n), some (.lst (r.map nD)), some (nD task), some (.lst (ws.map oD)), e7, some (.lst (able.map nD)), some (.bl ra), some (oD fa), some (.lst (mem.map nD)), some (tT ra le fa), some (tO ra le fa), some (.lst (due.map nD)), e15, some (.lst (cho.map nD)), some (.tup (ws.map oD)), some (.tup (mem.map nD)), some (.tup (cho.map nD)), e20, e21, e22]) (cs := bx g10 s10) (a := 21) (b := 22) (c := 8) (d := 5) (src := iEn (aCons (eVar 11) aNil)) (mem := mem) (able := able) (task := task) (iEn_of rfl) (by omega) rfl rfl (.inr rfl) rfl (by simp) (by simp) (by decide) (by decide) (by decide)
  refine Go.seq (sAsg_nm ea2) ?_
  simp only [List.set_cons_zero, List.set_cons_succ]
  obtain ⟨lat, hlat⟩ : ∃ lat, (if fa.isNone then mem else aftM mem able task) = lat := ⟨_, rfl⟩
  have ei : eIf (tCmp' (gIs false) (eVar 10) (eC .non)) (eVar 11) (eVar 20) ⟨[some d0, some (.loc 0), some dt, some (nD n), some (.lst (r.map nD)), some (nD task), some (.lst (ws.map oD)), e7, some (.lst (able.map nD)), some (.bl ra), some (oD fa), some (.lst (mem.map nD)), some (tT ra le fa), some (tO ra le fa), some (.lst (due.map nD)), e15, some (.lst (cho.map nD)), some (.tup (ws.map oD)), some (.tup (mem.map nD)), some (.tup (cho.map nD)), some (.lst ((aftM mem able task).map nD)), e21, e22], bx g10 s10⟩ = .ok (.lst (lat.map nD)) (bx g10 s10) := by
    rw [← hlat]
    refine eIf_of (k := fa.isNone) (c1 := bx g10 s10) (tCmp_of (eOp_of (x := oD fa) (y := .non) (c1 := bx g10 s10) (c2 := bx g10 s10) rfl rfl isnon_oD)) ?_
    cases fa <;> rfl
  refine Go.seq (sAsg_nm ei) ?_
  simp only [List.set_cons_zero, List.set_cons_succ]
  have e1 : eCall 0 memF (aCons (eVar 13) (aCons (eB hTuple (aCons (eVar 11) aNil)) (aCons (eB hTuple (aCons (eVar 8) aNil)) (aCons (eVar 5) aNil)))) ⟨[some d0, some (.loc 0), some dt, some (nD n), some (.lst (r.map nD)), some (nD task), some (.lst (ws.map oD)), e7, some (.lst (able.map nD)), some (.bl ra), some (oD fa), some (.lst (mem.map nD)), some (tT ra le fa), some (tO ra le fa), some (.lst (due.map nD)), e15, some (.lst (cho.map nD)), some (.tup (ws.map oD)), some (.tup (mem.map nD)), some (.tup (cho.map nD)), some (.lst (lat.map nD)), e21, e22], bx g10 s10⟩ = .ok (.tup (lat.map nD)) (bx g10 s10) := eCall_of (ds := [tO ra le fa, .tup (mem.map nD), .tup (able.map nD), nD task]) (c1 := bx g10 s10) rfl ((mem_ok (by omega) (bx g10 s10)).trans (by rw [hlat]))
  have e2 : eCallK 0 memF [3, 2, 1, 0] (aCons (eVar 5) (aCons (eB hTuple (aCons (eVar 8) aNil)) (aCons (eB hTuple (aCons (eVar 11) aNil)) (aCons (eVar 13) aNil)))) ⟨[some d0, some (.loc 0), some dt, some (nD n), some (.lst (r.map nD)), some (nD task), some (.lst (ws.map oD)), e7, some (.lst (able.map nD)), some (.bl ra), some (oD fa), some (.lst (mem.map nD)), some (tT ra le fa), some (tO ra le fa), some (.lst (due.map nD)), e15, some (.lst (cho.map nD)), some (.tup (ws.map oD)), some (.tup (mem.map nD)), some (.tup (cho.map nD)), some (.lst (lat.map nD)), e21, e22], bx g10 s10⟩ = .ok (.tup (lat.map nD)) (bx g10 s10) := eCallK_of (ds := [nD task, .tup (able.map nD), .tup (mem.map nD), tO ra le fa]) (c1 := bx g10 s10) rfl rfl ((mem_ok (by omega) (bx g10 s10)).trans (by rw [hlat]))
  refine Go.seq (skip_of (c1 := bx g10 s10) (tCmp_of (eOp_of e1 (y := .tup (lat.map nD)) (c2 := bx g10 s10) rfl (eqT_same nD_ints)))) ?_
  refine Go.last (skip_of (c1 := bx g10 s10) (tCmp_of (eOp_of e2 (y := .tup (lat.map nD)) (c2 := bx g10 s10) rfl (eqT_same nD_ints)))) ?_
  exact ⟨_, _, _, _, _, _, _, _, _, _, _, _, _, _, _, _, _, _, _, _, _, _, _, rfl⟩
theorem turn_ok (d0 : D) (d : D) (st : S) (h : Inv d0 st) : ∃ st1 st2, gNm 2 d st = some st1 ∧ turnB st1 = .nx st2 ∧ Inv d0 st2 := by
  obtain ⟨e2, e3, e4, e5, e6, e7, e8, e9, e10, e11, e12, e13, e14, e15, e16, e17, e18, e19, e20, e21, e22, g, s, rfl⟩ := h
  obtain ⟨st2, q1, q2⟩ := go_ok d0 d e2 e3 e4 e5 e6 e7 e8 e9 e10 e11 e12 e13 e14 e15 e16 e17 e18 e19 e20 e21 e22 g s
  exact ⟨_, st2, rfl, q1, q2⟩
theorem law_true : ∀ ns : List Int, ns.length ≤ 63 → ∃ cs, runF 23 b_law [.frl (ns.map D.int)] [] = .ok (.bl true) cs := by
  intro ns _
  obtain ⟨g, s, hb⟩ := box_ok ns
  obtain ⟨st', e1, i1⟩ := forL_of (I := Inv (.frl (ns.map D.int))) (g := gNm 2) (body := turnB) (turn_ok _) ((List.range 12).map nD) ⟨[some (.frl (ns.map D.int)), some (.loc 0), none, none, none, none, none, none, none, none, none, none, none, none, none, none, none, none, none, none, none, none, none], bx g s⟩ ⟨_, _, _, _, _, _, _, _, _, _, _, _, _, _, _, _, _, _, _, _, _, _, _, rfl⟩
  exact ⟨_, runF_rt (st := ⟨_, _⟩) ((sSeq_of (sAsg_nm (d := .loc 0) (c1 := bx g s) hb)).trans ((sSeq_of (sFor_of (iR1_nat (n := 12) (c1 := bx g s) rfl (by decide)) e1)).trans rfl))⟩
end K67


namespace K67
open PySem L2 PyProof.Rows VL
theorem all_mk {l : PySem.W.OpenLaw} {w : World} {K : PySem.W.Frag} {h : Heap} {mg : Str → Option Value} {fa : Addr} (X : K.In h) (G : h.Ns mainGlobals mg) (hfa : mg "law" = some (.ref fa))
    {C_Turns : Addr} {f_is_integer : Addr} {od_is_integer : Option Addr} {an_is_integer : Option Addr} {sl_is_integer : Array (Option Value)} {oc_is_integer : Value} {kV_is_integer : Value} {dc_is_integer : Value} {pm_is_integer : Value} {cd_is_integer : Value} {ct_is_integer : Value} {f_is_number : Addr} {od_is_number : Option Addr} {an_is_number : Option Addr} {sl_is_number : Array (Option Value)} {oc_is_number : Value} {kV_is_number : Value} {dc_is_number : Value} {pm_is_number : Value} {cd_is_number : Value} {ct_is_number : Value} {f_Turns_init : Addr} {od_Turns_init : Option Addr} {an_Turns_init : Option Addr} {sl_Turns_init : Array (Option Value)} {oc_Turns_init : Value} {kV_Turns_init : Value} {dc_Turns_init : Value} {pm_Turns_init : Value} {cd_Turns_init : Value} {ct_Turns_init : Value} {T_Turns_init : Addr} {oT_Turns_init : Value} {dT_Turns_init : Option Addr} {nT_Turns_init : Nat} {sT_Turns_init : Array (Option Value)} {d0_Turns_init : Value} {d1_Turns_init : Value} {d2_Turns_init : Value} {f_hanging : Addr} {od_hanging : Option Addr} {an_hanging : Option Addr} {sl_hanging : Array (Option Value)} {oc_hanging : Value} {kV_hanging : Value} {dc_hanging : Value} {pm_hanging : Value} {cd_hanging : Value} {ct_hanging : Value} {f_ranks_now : Addr} {od_ranks_now : Option Addr} {an_ranks_now : Option Addr} {sl_ranks_now : Array (Option Value)} {oc_ranks_now : Value} {kV_ranks_now : Value} {dc_ranks_now : Value} {pm_ranks_now : Value} {cd_ranks_now : Value} {ct_ranks_now : Value} {f_may : Addr} {od_may : Option Addr} {an_may : Option Addr} {sl_may : Array (Option Value)} {oc_may : Value} {kV_may : Value} {dc_may : Value} {pm_may : Value} {cd_may : Value} {ct_may : Value} {f_memory_after : Addr} {od_memory_after : Option Addr} {an_memory_after : Option Addr} {sl_memory_after : Array (Option Value)} {oc_memory_after : Value} {kV_memory_after : Value} {dc_memory_after : Value} {pm_memory_after : Value} {cd_memory_after : Value} {ct_memory_after : Value} {f_box : Addr} {od_box : Option Addr} {an_box : Option Addr} {sl_box : Array (Option Value)} {oc_box : Value} {kV_box : Value} {dc_box : Value} {pm_box : Value} {cd_box : Value} {ct_box : Value} {f_take : Addr} {od_take : Option Addr} {an_take : Option Addr} {sl_take : Array (Option Value)} {oc_take : Value} {kV_take : Value} {dc_take : Value} {pm_take : Value} {cd_take : Value} {ct_take : Value} {f_pick : Addr} {od_pick : Option Addr} {an_pick : Option Addr} {sl_pick : Array (Option Value)} {oc_pick : Value} {kV_pick : Value} {dc_pick : Value} {pm_pick : Value} {cd_pick : Value} {ct_pick : Value} {f_hung : Addr} {od_hung : Option Addr} {an_hung : Option Addr} {sl_hung : Array (Option Value)} {oc_hung : Value} {kV_hung : Value} {dc_hung : Value} {pm_hung : Value} {cd_hung : Value} {ct_hung : Value} {f_lentl : Addr} {od_lentl : Option Addr} {an_lentl : Option Addr} {sl_lentl : Array (Option Value)} {oc_lentl : Value} {kV_lentl : Value} {dc_lentl : Value} {pm_lentl : Value} {cd_lentl : Value} {ct_lentl : Value} {f_chosen : Addr} {od_chosen : Option Addr} {an_chosen : Option Addr} {sl_chosen : Array (Option Value)} {oc_chosen : Value} {kV_chosen : Value} {dc_chosen : Value} {pm_chosen : Value} {cd_chosen : Value} {ct_chosen : Value} {f_law : Addr} {od_law : Option Addr} {an_law : Option Addr} {sl_law : Array (Option Value)} {oc_law : Value} {kV_law : Value} {dc_law : Value} {pm_law : Value} {cd_law : Value} {ct_law : Value}
    (aC_Turns : PySem.W.nsIn K mainGlobals "Turns" = some (some (.ref C_Turns)))
    (pg_Turns : PySem.W.plainGet K C_Turns Str.empty = true)
    (hd_Turns : PySem.W.hasDictIn K C_Turns = true)
    (po_Turns : PySem.W.plainOver K C_Turns = true)
    (sa_Turns : PySem.W.findIn K (.ref C_Turns) "__setattr__" = some (some (.builtin "object.__setattr__")))
    (mk_Turns : PySem.W.makesIn K C_Turns = true)
    (kc_Turns : PySem.W.keepIn K (.ref C_Turns) = true)
    (nF_Turns_ranked : PySem.W.findIn K (.ref C_Turns) "ranked" = some none)
    (nF_Turns_lent : PySem.W.findIn K (.ref C_Turns) "lent" = some none)
    (nF_Turns_fair : PySem.W.findIn K (.ref C_Turns) "fair" = some none)
    (a_is_integer : PySem.W.nsIn K mainGlobals "is_integer" = some (some (.ref f_is_integer)))
    (l_is_integer : K.lookup f_is_integer = some ⟨oc_is_integer, od_is_integer, .func (PySem.W.fnOf "is_integer" "is_integer" (defArgs s_is_integer) (defBody s_is_integer) (defScope s_is_integer) .none kV_is_integer dc_is_integer pm_is_integer an_is_integer cd_is_integer ct_is_integer), sl_is_integer⟩)
    (c_is_integer : PySem.W.codeIn K cd_is_integer "is_integer" = true)
    (k_is_integer : PySem.W.keepIn K (.ref f_is_integer) = true)
    (a_is_number : PySem.W.nsIn K mainGlobals "is_number" = some (some (.ref f_is_number)))
    (l_is_number : K.lookup f_is_number = some ⟨oc_is_number, od_is_number, .func (PySem.W.fnOf "is_number" "is_number" (defArgs s_is_number) (defBody s_is_number) (defScope s_is_number) .none kV_is_number dc_is_number pm_is_number an_is_number cd_is_number ct_is_number), sl_is_number⟩)
    (c_is_number : PySem.W.codeIn K cd_is_number "is_number" = true)
    (k_is_number : PySem.W.keepIn K (.ref f_is_number) = true)
    (a_Turns_init : PySem.W.findIn K (.ref C_Turns) "__init__" = some (some (.ref f_Turns_init)))
    (i_Turns_init : PySem.W.isFn K (.ref f_Turns_init) = true)
    (l_Turns_init : K.lookup f_Turns_init = some ⟨oc_Turns_init, od_Turns_init, .func (PySem.W.fnOf "__init__" "Turns.__init__" (defArgs s_Turns_init) (defBody s_Turns_init) (defScope s_Turns_init) (.ref T_Turns_init) kV_Turns_init dc_Turns_init pm_Turns_init an_Turns_init cd_Turns_init ct_Turns_init), sl_Turns_init⟩)
    (c_Turns_init : PySem.W.codeIn K cd_Turns_init "Turns.__init__" = true)
    (k_Turns_init : PySem.W.keepIn K (.ref f_Turns_init) = true)
    (lT_Turns_init : K.lookup T_Turns_init = some ⟨oT_Turns_init, dT_Turns_init, .seq #[d0_Turns_init, d1_Turns_init, d2_Turns_init] nT_Turns_init, sT_Turns_init⟩)
    (a_hanging : PySem.W.nsIn K mainGlobals "hanging" = some (some (.ref f_hanging)))
    (l_hanging : K.lookup f_hanging = some ⟨oc_hanging, od_hanging, .func (PySem.W.fnOf "hanging" "hanging" (defArgs s_hanging) (defBody s_hanging) (defScope s_hanging) .none kV_hanging dc_hanging pm_hanging an_hanging cd_hanging ct_hanging), sl_hanging⟩)
    (c_hanging : PySem.W.codeIn K cd_hanging "hanging" = true)
    (k_hanging : PySem.W.keepIn K (.ref f_hanging) = true)
    (a_ranks_now : PySem.W.nsIn K mainGlobals "ranks_now" = some (some (.ref f_ranks_now)))
    (l_ranks_now : K.lookup f_ranks_now = some ⟨oc_ranks_now, od_ranks_now, .func (PySem.W.fnOf "ranks_now" "ranks_now" (defArgs s_ranks_now) (defBody s_ranks_now) (defScope s_ranks_now) .none kV_ranks_now dc_ranks_now pm_ranks_now an_ranks_now cd_ranks_now ct_ranks_now), sl_ranks_now⟩)
    (c_ranks_now : PySem.W.codeIn K cd_ranks_now "ranks_now" = true)
    (k_ranks_now : PySem.W.keepIn K (.ref f_ranks_now) = true)
    (a_may : PySem.W.nsIn K mainGlobals "may" = some (some (.ref f_may)))
    (l_may : K.lookup f_may = some ⟨oc_may, od_may, .func (PySem.W.fnOf "may" "may" (defArgs s_may) (defBody s_may) (defScope s_may) .none kV_may dc_may pm_may an_may cd_may ct_may), sl_may⟩)
    (c_may : PySem.W.codeIn K cd_may "may" = true)
    (k_may : PySem.W.keepIn K (.ref f_may) = true)
    (a_memory_after : PySem.W.nsIn K mainGlobals "memory_after" = some (some (.ref f_memory_after)))
    (l_memory_after : K.lookup f_memory_after = some ⟨oc_memory_after, od_memory_after, .func (PySem.W.fnOf "memory_after" "memory_after" (defArgs s_memory_after) (defBody s_memory_after) (defScope s_memory_after) .none kV_memory_after dc_memory_after pm_memory_after an_memory_after cd_memory_after ct_memory_after), sl_memory_after⟩)
    (c_memory_after : PySem.W.codeIn K cd_memory_after "memory_after" = true)
    (k_memory_after : PySem.W.keepIn K (.ref f_memory_after) = true)
    (a_box : PySem.W.nsIn K mainGlobals "_law_box" = some (some (.ref f_box)))
    (l_box : K.lookup f_box = some ⟨oc_box, od_box, .func (PySem.W.fnOf "_law_box" "_law_box" (defArgs s_box) (defBody s_box) (defScope s_box) .none kV_box dc_box pm_box an_box cd_box ct_box), sl_box⟩)
    (c_box : PySem.W.codeIn K cd_box "_law_box" = true)
    (k_box : PySem.W.keepIn K (.ref f_box) = true)
    (a_take : PySem.W.nsIn K mainGlobals "_law_take" = some (some (.ref f_take)))
    (l_take : K.lookup f_take = some ⟨oc_take, od_take, .func (PySem.W.fnOf "_law_take" "_law_take" (defArgs s_take) (defBody s_take) (defScope s_take) .none kV_take dc_take pm_take an_take cd_take ct_take), sl_take⟩)
    (c_take : PySem.W.codeIn K cd_take "_law_take" = true)
    (k_take : PySem.W.keepIn K (.ref f_take) = true)
    (a_pick : PySem.W.nsIn K mainGlobals "_law_pick" = some (some (.ref f_pick)))
    (l_pick : K.lookup f_pick = some ⟨oc_pick, od_pick, .func (PySem.W.fnOf "_law_pick" "_law_pick" (defArgs s_pick) (defBody s_pick) (defScope s_pick) .none kV_pick dc_pick pm_pick an_pick cd_pick ct_pick), sl_pick⟩)
    (c_pick : PySem.W.codeIn K cd_pick "_law_pick" = true)
    (k_pick : PySem.W.keepIn K (.ref f_pick) = true)
    (a_hung : PySem.W.nsIn K mainGlobals "_law_hung" = some (some (.ref f_hung)))
    (l_hung : K.lookup f_hung = some ⟨oc_hung, od_hung, .func (PySem.W.fnOf "_law_hung" "_law_hung" (defArgs s_hung) (defBody s_hung) (defScope s_hung) .none kV_hung dc_hung pm_hung an_hung cd_hung ct_hung), sl_hung⟩)
    (c_hung : PySem.W.codeIn K cd_hung "_law_hung" = true)
    (k_hung : PySem.W.keepIn K (.ref f_hung) = true)
    (a_lentl : PySem.W.nsIn K mainGlobals "_law_lent" = some (some (.ref f_lentl)))
    (l_lentl : K.lookup f_lentl = some ⟨oc_lentl, od_lentl, .func (PySem.W.fnOf "_law_lent" "_law_lent" (defArgs s_lentl) (defBody s_lentl) (defScope s_lentl) .none kV_lentl dc_lentl pm_lentl an_lentl cd_lentl ct_lentl), sl_lentl⟩)
    (c_lentl : PySem.W.codeIn K cd_lentl "_law_lent" = true)
    (k_lentl : PySem.W.keepIn K (.ref f_lentl) = true)
    (a_chosen : PySem.W.nsIn K mainGlobals "_law_chosen" = some (some (.ref f_chosen)))
    (l_chosen : K.lookup f_chosen = some ⟨oc_chosen, od_chosen, .func (PySem.W.fnOf "_law_chosen" "_law_chosen" (defArgs s_chosen) (defBody s_chosen) (defScope s_chosen) .none kV_chosen dc_chosen pm_chosen an_chosen cd_chosen ct_chosen), sl_chosen⟩)
    (c_chosen : PySem.W.codeIn K cd_chosen "_law_chosen" = true)
    (k_chosen : PySem.W.keepIn K (.ref f_chosen) = true)
    (a_law : PySem.W.nsIn K mainGlobals "law" = some (some (.ref f_law)))
    (l_law : K.lookup f_law = some ⟨oc_law, od_law, .func (PySem.W.fnOf "law" "law" (defArgs s_law) (defBody s_law) (defScope s_law) .none kV_law dc_law pm_law an_law cd_law ct_law), sl_law⟩)
    (c_law : PySem.W.codeIn K cd_law "law" = true)
    (k_law : PySem.W.keepIn K (.ref f_law) = true)
    (z_len : PySem.W.nsIn K mainGlobals "len" = some none)
    (z_int : PySem.W.nsIn K mainGlobals "int" = some none)
    (z_abs : PySem.W.nsIn K mainGlobals "abs" = some none)
    (z_tuple : PySem.W.nsIn K mainGlobals "tuple" = some none)
    (z_list : PySem.W.nsIn K mainGlobals "list" = some none)
    (z_max : PySem.W.nsIn K mainGlobals "max" = some none)
    (z_isinstance : PySem.W.nsIn K mainGlobals "isinstance" = some none)
    (z_bool : PySem.W.nsIn K mainGlobals "bool" = some none)
    (z_range : PySem.W.nsIn K mainGlobals "range" = some none)
    (z_enumerate : PySem.W.nsIn K mainGlobals "enumerate" = some none)
    (z_repr : PySem.W.nsIn K mainGlobals "repr" = some none) :
    ∃ fd : FuncData, (∀ (s : Shared) (u : Value), BindsTo s fd ⟨[u], []⟩ [("_law_script", u)]) ∧ ∃ sp : Sp, (∀ base : Heap, K.In base → base.Ns mainGlobals mg → AtC l.prog w K mg base (L2.CX l.prog w) 6 fa fd ["_law_script"] sp) ∧
      ∀ (H : Hp) (a : Addr) (ns : List Int), ns.length ≤ 63 → Only H → SqL K H a (ns.map V.int) → sp [.ref a] H (fun v _ => v = .bl true) fun _ _ _ => False := by
  have e := hfa.symm.trans (PySem.W.mg_of X G a_law)
  cases e
  let κ : Nat → Addr := fun n => [C_Turns].getD n 0
  have F_is_integer : FunA (Kt.mk K κ).K "is_integer" "is_integer" s_is_integer .none f_is_integer _ := funA_mk (K := ⟨K, κ⟩) l_is_integer c_is_integer
  have B_is_integer := F_is_integer.binds (K := ⟨K, κ⟩) (ps := ["value"]) (fun _ _ _ _ _ _ us hl => match us, hl with | [_], _ => rfl)
  have F_is_number : FunA (Kt.mk K κ).K "is_number" "is_number" s_is_number .none f_is_number _ := funA_mk (K := ⟨K, κ⟩) l_is_number c_is_number
  have B_is_number := F_is_number.binds (K := ⟨K, κ⟩) (ps := ["value"]) (fun _ _ _ _ _ _ us hl => match us, hl with | [_], _ => rfl)
  have F_Turns_init : FunA (Kt.mk K κ).K "__init__" "Turns.__init__" s_Turns_init (.ref T_Turns_init) f_Turns_init _ := funA_mk (K := ⟨K, κ⟩) l_Turns_init c_Turns_init
  have B_Turns_init := F_Turns_init.bindsD (K := ⟨K, κ⟩) (ps := ["self", "ranked", "lent", "fair"]) lT_Turns_init rfl (fun _ _ _ _ _ _ us hl => match us, hl with | [_, _, _, _], _ => ⟨_, rfl, rfl⟩)
  have F_hanging : FunA (Kt.mk K κ).K "hanging" "hanging" s_hanging .none f_hanging _ := funA_mk (K := ⟨K, κ⟩) l_hanging c_hanging
  have B_hanging := F_hanging.binds (K := ⟨K, κ⟩) (ps := ["waits", "task"]) (fun _ _ _ _ _ _ us hl => match us, hl with | [_, _], _ => rfl)
  have F_ranks_now : FunA (Kt.mk K κ).K "ranks_now" "ranks_now" s_ranks_now .none f_ranks_now _ := funA_mk (K := ⟨K, κ⟩) l_ranks_now c_ranks_now
  have B_ranks_now := F_ranks_now.binds (K := ⟨K, κ⟩) (ps := ["turns", "ranks", "waits"]) (fun _ _ _ _ _ _ us hl => match us, hl with | [_, _, _], _ => rfl)
  have F_may : FunA (Kt.mk K κ).K "may" "may" s_may .none f_may _ := funA_mk (K := ⟨K, κ⟩) l_may c_may
  have B_may := F_may.binds (K := ⟨K, κ⟩) (ps := ["turns", "ranks", "can", "waits", "memory"]) (fun _ _ _ _ _ _ us hl => match us, hl with | [_, _, _, _, _], _ => rfl)
  have F_memory_after : FunA (Kt.mk K κ).K "memory_after" "memory_after" s_memory_after .none f_memory_after _ := funA_mk (K := ⟨K, κ⟩) l_memory_after c_memory_after
  have B_memory_after := F_memory_after.binds (K := ⟨K, κ⟩) (ps := ["turns", "memory", "can", "task"]) (fun _ _ _ _ _ _ us hl => match us, hl with | [_, _, _, _], _ => rfl)
  have F_box : FunA (Kt.mk K κ).K "_law_box" "_law_box" s_box .none f_box _ := funA_mk (K := ⟨K, κ⟩) l_box c_box
  have B_box := F_box.binds (K := ⟨K, κ⟩) (ps := ["_law_script", "_law_k"]) (fun _ _ _ _ _ _ us hl => match us, hl with | [_, _], _ => rfl)
  have F_take : FunA (Kt.mk K κ).K "_law_take" "_law_take" s_take .none f_take _ := funA_mk (K := ⟨K, κ⟩) l_take c_take
  have B_take := F_take.binds (K := ⟨K, κ⟩) (ps := ["_law_box_here", "_law_many"]) (fun _ _ _ _ _ _ us hl => match us, hl with | [_, _], _ => rfl)
  have F_pick : FunA (Kt.mk K κ).K "_law_pick" "_law_pick" s_pick .none f_pick _ := funA_mk (K := ⟨K, κ⟩) l_pick c_pick
  have B_pick := F_pick.binds (K := ⟨K, κ⟩) (ps := ["_law_box_here", "_law_some"]) (fun _ _ _ _ _ _ us hl => match us, hl with | [_, _], _ => rfl)
  have F_hung : FunA (Kt.mk K κ).K "_law_hung" "_law_hung" s_hung .none f_hung _ := funA_mk (K := ⟨K, κ⟩) l_hung c_hung
  have B_hung := F_hung.binds (K := ⟨K, κ⟩) (ps := ["_law_waits", "_law_task"]) (fun _ _ _ _ _ _ us hl => match us, hl with | [_, _], _ => rfl)
  have F_lentl : FunA (Kt.mk K κ).K "_law_lent" "_law_lent" s_lentl .none f_lentl _ := funA_mk (K := ⟨K, κ⟩) l_lentl c_lentl
  have B_lentl := F_lentl.binds (K := ⟨K, κ⟩) (ps := ["_law_ranks", "_law_waits"]) (fun _ _ _ _ _ _ us hl => match us, hl with | [_, _], _ => rfl)
  have F_chosen : FunA (Kt.mk K κ).K "_law_chosen" "_law_chosen" s_chosen .none f_chosen _ := funA_mk (K := ⟨K, κ⟩) l_chosen c_chosen
  have B_chosen := F_chosen.binds (K := ⟨K, κ⟩) (ps := ["_law_turns", "_law_ranks", "_law_able", "_law_waits", "_law_memory"]) (fun _ _ _ _ _ _ us hl => match us, hl with | [_, _, _, _, _], _ => rfl)
  have T : Tx ⟨K, κ⟩ mg := { b_len := PySem.W.mg_none_of X G z_len, b_int := PySem.W.mg_none_of X G z_int, b_abs := PySem.W.mg_none_of X G z_abs, b_tuple := PySem.W.mg_none_of X G z_tuple, b_list := PySem.W.mg_none_of X G z_list, b_max := PySem.W.mg_none_of X G z_max, b_isinstance := PySem.W.mg_none_of X G z_isinstance, b_bool := PySem.W.mg_none_of X G z_bool, b_range := PySem.W.mg_none_of X G z_range, b_enumerate := PySem.W.mg_none_of X G z_enumerate, b_repr := PySem.W.mg_none_of X G z_repr, f_Turns_ranked := ⟨⟨pg_Turns, hd_Turns, po_Turns, sa_Turns⟩, nF_Turns_ranked⟩, f_Turns_lent := ⟨⟨pg_Turns, hd_Turns, po_Turns, sa_Turns⟩, nF_Turns_lent⟩, f_Turns_fair := ⟨⟨pg_Turns, hd_Turns, po_Turns, sa_Turns⟩, nF_Turns_fair⟩, t_is_integer := ⟨f_is_integer, _, PySem.W.mg_of X G a_is_integer, k_is_integer, F_is_integer, B_is_integer⟩, t_is_number := ⟨f_is_number, _, PySem.W.mg_of X G a_is_number, k_is_number, F_is_number, B_is_number⟩, t_Turns_init := ⟨f_Turns_init, _, PySem.W.mg_of X G aC_Turns, ⟨mk_Turns, a_Turns_init, i_Turns_init, kc_Turns⟩, ⟨_, F_Turns_init⟩, B_Turns_init⟩, t_hanging := ⟨f_hanging, _, PySem.W.mg_of X G a_hanging, k_hanging, F_hanging, B_hanging⟩, t_ranks_now := ⟨f_ranks_now, _, PySem.W.mg_of X G a_ranks_now, k_ranks_now, F_ranks_now, B_ranks_now⟩, t_may := ⟨f_may, _, PySem.W.mg_of X G a_may, k_may, F_may, B_may⟩, t_memory_after := ⟨f_memory_after, _, PySem.W.mg_of X G a_memory_after, k_memory_after, F_memory_after, B_memory_after⟩, t_box := ⟨f_box, _, PySem.W.mg_of X G a_box, k_box, F_box, B_box⟩, t_take := ⟨f_take, _, PySem.W.mg_of X G a_take, k_take, F_take, B_take⟩, t_pick := ⟨f_pick, _, PySem.W.mg_of X G a_pick, k_pick, F_pick, B_pick⟩, t_hung := ⟨f_hung, _, PySem.W.mg_of X G a_hung, k_hung, F_hung, B_hung⟩, t_lentl := ⟨f_lentl, _, PySem.W.mg_of X G a_lentl, k_lentl, F_lentl, B_lentl⟩, t_chosen := ⟨f_chosen, _, PySem.W.mg_of X G a_chosen, k_chosen, F_chosen, B_chosen⟩ }
  have Fl := fun_mk (st := s_law) l_law c_law k_law
  refine ⟨PySem.W.fnOf "law" "law" (defArgs s_law) (defBody s_law) (defScope s_law) .none kV_law dc_law pm_law an_law cd_law ct_law, fun s v => .of_eq rfl, spF ⟨K, κ⟩ 1 (runF 23 b_law), fun base _ _ => ?_, fun H a ns hl ho hs => law_pre (K := ⟨K, κ⟩) law_true H a ns hl ho hs⟩
  have D_is_integer := fun base : Heap => ok1_is_integer (P := l.prog) (w := w) (base := base) T 
  have D_is_number := fun base : Heap => ok1_is_number (P := l.prog) (w := w) (base := base) T (D_is_integer base)
  have D_Turns_init := fun base : Heap => ok1_Turns_init (P := l.prog) (w := w) (base := base) T (D_is_number base)
  have D_hanging := fun base : Heap => ok1_hanging (P := l.prog) (w := w) (base := base) T 
  have D_ranks_now := fun base : Heap => ok1_ranks_now (P := l.prog) (w := w) (base := base) T (D_hanging base)
  have D_may := fun base : Heap => ok1_may (P := l.prog) (w := w) (base := base) T (D_ranks_now base)
  have D_memory_after := fun base : Heap => ok1_memory_after (P := l.prog) (w := w) (base := base) T 
  have D_box := fun base : Heap => ok1_box (P := l.prog) (w := w) (base := base) T 
  have D_take := fun base : Heap => ok1_take (P := l.prog) (w := w) (base := base) T 
  have D_pick := fun base : Heap => ok1_pick (P := l.prog) (w := w) (base := base) T (D_take base)
  have D_hung := fun base : Heap => ok1_hung (P := l.prog) (w := w) (base := base) T 
  have D_lentl := fun base : Heap => ok1_lentl (P := l.prog) (w := w) (base := base) T (D_hung base)
  have D_chosen := fun base : Heap => ok1_chosen (P := l.prog) (w := w) (base := base) T (D_lentl base)
  exact ok_law T (D_box base) (D_chosen base) (D_may base) (D_take base) (D_pick base) (D_lentl base) (D_ranks_now base) (D_memory_after base) (D_Turns_init base) Fl
end K67
open PySem PySem.W PyProof.Rows
set_option maxRecDepth 100000 in
set_option maxHeartbeats 0 in
theorem PySem.Challenge.cw_plainroads_k67_who_may_step_holds : PySem.Challenge.rw_plainroads_k67_who_may_step.Holds := by
  w_on; o_law; k_head; (case hw => w_witness2)
  k_fill
  refine VL.walkC (l := PySem.Challenge.rw_plainroads_k67_who_may_step) (n := 63) (k := 6) (x := "_law_script") (CX := fun w => L2.CX (PySem.Challenge.rw_plainroads_k67_who_may_step).prog w) rfl (by decide) rfl ⟨rfl, by decide, by decide⟩ (fun w h Y => PySem.W.kIn_of Y) ?F (fun w H s e s1 => VL.noCX H s e s1)
  case F =>
    intro w mg fa h KX G hmg
    refine' K67.all_mk KX G hmg ?aC_Turns ?pg_Turns ?hd_Turns ?po_Turns ?sa_Turns ?mk_Turns ?kc_Turns ?nF_Turns_ranked ?nF_Turns_lent ?nF_Turns_fair ?a_is_integer ?l_is_integer ?c_is_integer ?k_is_integer ?a_is_number ?l_is_number ?c_is_number ?k_is_number ?a_Turns_init ?i_Turns_init ?l_Turns_init ?c_Turns_init ?k_Turns_init ?lT_Turns_init ?a_hanging ?l_hanging ?c_hanging ?k_hanging ?a_ranks_now ?l_ranks_now ?c_ranks_now ?k_ranks_now ?a_may ?l_may ?c_may ?k_may ?a_memory_after ?l_memory_after ?c_memory_after ?k_memory_after ?a_box ?l_box ?c_box ?k_box ?a_take ?l_take ?c_take ?k_take ?a_pick ?l_pick ?c_pick ?k_pick ?a_hung ?l_hung ?c_hung ?k_hung ?a_lentl ?l_lentl ?c_lentl ?k_lentl ?a_chosen ?l_chosen ?c_chosen ?k_chosen ?a_law ?l_law ?c_law ?k_law ?z_len ?z_int ?z_abs ?z_tuple ?z_list ?z_max ?z_isinstance ?z_bool ?z_range ?z_enumerate ?z_repr
    (case aC_Turns => k_is)
    (case pg_Turns => k_is)
    (case hd_Turns => k_is)
    (case po_Turns => k_is)
    (case sa_Turns => k_is)
    (case mk_Turns => k_is)
    (case kc_Turns => k_is)
    (case nF_Turns_ranked => k_is)
    (case nF_Turns_lent => k_is)
    (case nF_Turns_fair => k_is)
    (case a_is_integer => k_is)
    (case l_is_integer => k_is)
    (case c_is_integer => k_is)
    (case k_is_integer => k_is)
    (case a_is_number => k_is)
    (case l_is_number => k_is)
    (case c_is_number => k_is)
    (case k_is_number => k_is)
    (case a_Turns_init => k_is)
    (case i_Turns_init => k_is)
    (case l_Turns_init => k_is)
    (case c_Turns_init => k_is)
    (case k_Turns_init => k_is)
    (case lT_Turns_init => k_is)
    (case a_hanging => k_is)
    (case l_hanging => k_is)
    (case c_hanging => k_is)
    (case k_hanging => k_is)
    (case a_ranks_now => k_is)
    (case l_ranks_now => k_is)
    (case c_ranks_now => k_is)
    (case k_ranks_now => k_is)
    (case a_may => k_is)
    (case l_may => k_is)
    (case c_may => k_is)
    (case k_may => k_is)
    (case a_memory_after => k_is)
    (case l_memory_after => k_is)
    (case c_memory_after => k_is)
    (case k_memory_after => k_is)
    (case a_box => k_is)
    (case l_box => k_is)
    (case c_box => k_is)
    (case k_box => k_is)
    (case a_take => k_is)
    (case l_take => k_is)
    (case c_take => k_is)
    (case k_take => k_is)
    (case a_pick => k_is)
    (case l_pick => k_is)
    (case c_pick => k_is)
    (case k_pick => k_is)
    (case a_hung => k_is)
    (case l_hung => k_is)
    (case c_hung => k_is)
    (case k_hung => k_is)
    (case a_lentl => k_is)
    (case l_lentl => k_is)
    (case c_lentl => k_is)
    (case k_lentl => k_is)
    (case a_chosen => k_is)
    (case l_chosen => k_is)
    (case c_chosen => k_is)
    (case k_chosen => k_is)
    (case a_law => k_is)
    (case l_law => k_is)
    (case c_law => k_is)
    (case k_law => k_is)
    (case z_len => k_is)
    (case z_int => k_is)
    (case z_abs => k_is)
    (case z_tuple => k_is)
    (case z_list => k_is)
    (case z_max => k_is)
    (case z_isinstance => k_is)
    (case z_bool => k_is)
    (case z_range => k_is)
    (case z_enumerate => k_is)
    (case z_repr => k_is)
