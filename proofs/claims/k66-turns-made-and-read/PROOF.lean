import PyProof.Rows.All
import HandS.ForMost
import HandS.Exc
import HandS.ExcOwn
import HandS.Deep
import HandS.Flow
import HandS.TupAny
import HandS.Style
import HandS.Wide
import HandS.Conv
import HandS.IsInst
import HandS.RaiseMore
import HandS.Iter
import HandS.Comp
import HandS.WordsExc
import KE.GoesEnum
import HandS.Defaults
import HandS.MakeKwOnly
import HandS.ExcInit
import KE.KSuper
import KE.KExcSuper
import HandS.ExcField
import HandS.ExcIs
import KE.KExcIs
import KE.KCallOwn
import HandS.Text
import HandS.Star
import HandS.ClsMeth
import PyProof.TableCode
import Wide.All
import OpenK.AllK
import Wide.FinOn
import KE.RegKSuper
import KE.RegKTryMore
import KE.RegKIsAll
import PySem.Challenge.RW_plainroads_k66_turns_made_and_read
set_option Elab.async false
set_option linter.all false
set_option maxRecDepth 100000
set_option autoImplicit false
/-! VL0: the value layer: deep values, the relation of a plain state to the abstract heap, readings by plain functions. -/
namespace VL
open PySem L2

/-- a deep value: tuples, frozen lists and frozen objects by what they hold; loc n: the n-th own cell -/
inductive D where
  | non | bl (b : Bool) | int (i : Int) | str (x : Str)
  | tup (ds : List D) | lst (ds : List D) | frl (ds : List D)
  | obj (C : Nat) (ks : List Str) (ds : List D)
  | cls (C : Nat)
  | loc (n : Nat)

/-- an own cell, that the def may change -/
inductive Cell where
  | lst (ds : List D)
  | dk (ks : List Key) (ds : List D)
  | ins (C : Nat) (ks : List Str) (ds : List D)

/-- an exception of an own class: its class, its own fields -/
structure Exn where
  C : Nat
  ks : List Str
  ds : List D

/-- a state: the slots, the cells -/
structure S where
  env : List (Option D)
  cs : List Cell

/-- the written part, and where the classes stand in it -/
structure Kt where
  K : PySem.W.Frag
  κ : Nat → Addr

section
variable (K : Kt) (ρ : List Addr) (F : Hp)
mutual
inductive RV : D → V → Prop
  | non : RV .non .non
  | bl (b : Bool) : RV (.bl b) (.bl b)
  | int (i : Int) : RV (.int i) (.int i)
  | str (x : Str) : RV (.str x) (.str x)
  | tup {a : Addr} {vs : List V} {ds : List D} : SqT K.K F a vs → RVs ds vs → RV (.tup ds) (.ref a)
  | lst {a : Addr} {vs : List V} {ds : List D} : F a = some (.lst vs) → RVs ds vs → RV (.lst ds) (.ref a)
  | frl {a : Addr} {vs : List V} {ds : List D} : SqL K.K F a vs → RVs ds vs → RV (.frl ds) (.ref a)
  | obj {a dx : Addr} {C : Nat} {ks : List Str} {vs : List V} {ds : List D} : F a = some (.ins (K.κ C) dx (ks.zip vs)) → ks.length = vs.length → RVs ds vs → RV (.obj C ks ds) (.ref a)
  | cls (C : Nat) : RV (.cls C) (.ref (K.κ C))
  | loc {n : Nat} {a : Addr} : ρ[n]? = some a → RV (.loc n) (.ref a)
inductive RVs : List D → List V → Prop
  | nil : RVs [] []
  | cons {d : D} {ds : List D} {v : V} {vs : List V} : RV d v → RVs ds vs → RVs (d :: ds) (v :: vs)
end
end

theorem sqT_same {K : PySem.W.Frag} {H H' : Hp} {a : Addr} {xs : List V} (e : Same H H') (h : SqT K H a xs) : SqT K H' a xs := by
  rcases h with (h | ⟨o, h⟩) | h
  · exact .inl (.inl (e _ _ h))
  · exact .inl (.inr ⟨o, e _ _ h⟩)
  · exact .inr h

/-- the own cells go on, what is frozen goes on -/
structure Ext (ρ : List Addr) (F : Hp) (ρ' : List Addr) (F' : Hp) : Prop where
  pre : ρ <+: ρ'
  fz : Same F F'
theorem Ext.refl {ρ : List Addr} {F : Hp} : Ext ρ F ρ F := ⟨List.prefix_refl _, Same.refl _⟩
theorem Ext.trans {ρ ρ1 ρ2 : List Addr} {F F1 F2 : Hp} (a : Ext ρ F ρ1 F1) (b : Ext ρ1 F1 ρ2 F2) : Ext ρ F ρ2 F2 := ⟨a.pre.trans b.pre, a.fz.trans b.fz⟩
theorem Ext.at {ρ ρ' : List Addr} {F F' : Hp} (x : Ext ρ F ρ' F') {n : Nat} {a : Addr} (h : ρ[n]? = some a) : ρ'[n]? = some a := by
  obtain ⟨t, rfl⟩ := x.pre
  rw [List.getElem?_append_left (List.getElem?_eq_some_iff.mp h).1]
  exact h

mutual
theorem RV.ext {K : Kt} {ρ ρ' : List Addr} {F F' : Hp} (x : Ext ρ F ρ' F') : ∀ {d : D} {v : V}, RV K ρ F d v → RV K ρ' F' d v
  | _, _, .non => .non
  | _, _, .bl b => .bl b
  | _, _, .int i => .int i
  | _, _, .str z => .str z
  | _, _, .tup h r => .tup (sqT_same x.fz h) (RVs.ext x r)
  | _, _, .lst h r => .lst (x.fz _ _ h) (RVs.ext x r)
  | _, _, .frl h r => .frl (x.fz.seq h) (RVs.ext x r)
  | _, _, .obj h l r => .obj (x.fz _ _ h) l (RVs.ext x r)
  | _, _, .cls C => .cls C
  | _, _, .loc h => .loc (x.at h)
theorem RVs.ext {K : Kt} {ρ ρ' : List Addr} {F F' : Hp} (x : Ext ρ F ρ' F') : ∀ {ds : List D} {vs : List V}, RVs K ρ F ds vs → RVs K ρ' F' ds vs
  | _, _, .nil => .nil
  | _, _, .cons h r => .cons (RV.ext x h) (RVs.ext x r)
end

def CellAt (K : Kt) (ρ : List Addr) (F H : Hp) (a : Addr) : Cell → Prop
  | .lst ds => ∃ vs, H a = some (.lst vs) ∧ RVs K ρ F ds vs
  | .dk ks ds => ∃ vs, H a = some (.dK (ks.zip vs)) ∧ ks.length = vs.length ∧ RVs K ρ F ds vs
  | .ins C ks ds => ∃ dx vs, H a = some (.ins (K.κ C) dx (ks.zip vs)) ∧ ks.length = vs.length ∧ RVs K ρ F ds vs
theorem CellAt.some {K : Kt} {ρ : List Addr} {F H : Hp} {a : Addr} : ∀ {c : Cell}, CellAt K ρ F H a c → ∃ o, H a = some o
  | .lst _, ⟨_, h, _⟩ => ⟨_, h⟩
  | .dk _ _, ⟨_, h, _⟩ => ⟨_, h⟩
  | .ins _ _ _, ⟨_, _, h, _⟩ => ⟨_, h⟩
theorem CellAt.ext {K : Kt} {ρ ρ' : List Addr} {F F' H H' : Hp} {a : Addr} (x : Ext ρ F ρ' F') (e : H' a = H a) : ∀ {c : Cell}, CellAt K ρ F H a c → CellAt K ρ' F' H' a c
  | .lst _, ⟨_, h, r⟩ => ⟨_, e.trans h, r.ext x⟩
  | .dk _ _, ⟨_, h, l, r⟩ => ⟨_, e.trans h, l, r.ext x⟩
  | .ins _ _ _, ⟨_, _, h, l, r⟩ => ⟨_, _, e.trans h, l, r.ext x⟩

/-- the entry of the def: the written part, the heap, what was frozen, the cells that were handed in -/
structure Gx where
  K : Kt
  H0 : Hp
  F0 : Hp
  A0 : List Addr

structure Rel (G : Gx) (ρ : List Addr) (F : Hp) (st : S) (σ : St) (H : Hp) : Prop where
  len : st.env.length = σ.length
  env : ∀ (i : Nat) (d : D), st.env[i]? = some (some d) → ∃ v : V, σ[i]? = some (some v) ∧ RV G.K ρ F d v
  cl : ρ.length = st.cs.length
  cell : ∀ (i : Nat) (c : Cell) (a : Addr), st.cs[i]? = some c → ρ[i]? = some a → CellAt G.K ρ F H a c
  nd : ρ.Nodup
  fz : Same F H
  sep : ∀ a ∈ ρ, F a = none
  fr : ∀ a o, G.H0 a = some o → a ∉ G.A0 → H a = some o
  own : ∀ a ∈ ρ, a ∈ G.A0 ∨ G.H0 a = none
  new : ∀ a o, F a = some o → G.F0 a = some o ∨ G.H0 a = none
  old : Same G.F0 F
  a0 : G.A0 <+: ρ

section
variable {G : Gx} {ρ ρ' : List Addr} {F F' : Hp} {st : S} {σ : St} {H H' : Hp}
theorem Rel.inρ (r : Rel G ρ F st σ H) {a : Addr} (h : a ∈ ρ) : ∃ o, H a = some o := by
  obtain ⟨i, hi, rfl⟩ := List.getElem_of_mem h
  have hc : i < st.cs.length := by rw [← r.cl]; exact hi
  exact (r.cell i st.cs[i] ρ[i] (List.getElem?_eq_getElem hc) (List.getElem?_eq_getElem hi)).some
theorem Rel.free (r : Rel G ρ F st σ H) {p : Addr} (h : H p = none) : p ∉ ρ := fun hm => by
  obtain ⟨o, e⟩ := r.inρ hm
  rw [h] at e; cases e
theorem Rel.free0 (r : Rel G ρ F st σ H) {p : Addr} (h : H p = none) : G.H0 p = none := by
  cases e : G.H0 p with
  | none => rfl
  | some o =>
    by_cases ha : p ∈ G.A0
    · exact absurd (r.a0.subset ha) (r.free h)
    · have := r.fr p o e ha
      rw [h] at this; cases this
theorem Rel.freeF (r : Rel G ρ F st σ H) {p : Addr} (h : H p = none) : F p = none := r.fz.free h
theorem same_upd' {H : Hp} {p : Addr} {o : HO} (h : H p = none) : Same H (upd H p o) := fun b x e => by
  rw [upd_ne (ne_of_none e h)]
  exact e
/-- something new that stays as it is -/
theorem Rel.fresh (r : Rel G ρ F st σ H) {p : Addr} {o : HO} (h : H p = none) : Ext ρ F ρ (upd F p o) ∧ Rel G ρ (upd F p o) st σ (upd H p o) := by
  have x : Ext ρ F ρ (upd F p o) := ⟨List.prefix_refl _, same_upd' (r.freeF h)⟩
  have hne : ∀ a ∈ ρ, a ≠ p := fun a ha e => r.free h (e ▸ ha)
  refine ⟨x, ⟨r.len, fun i d e => ?_, r.cl, fun i c a e1 e2 => ?_, r.nd, fun b u e => ?_, fun a ha => ?_, fun a u e1 e2 => ?_, r.own, fun a u e => ?_, r.old.trans x.fz, r.a0⟩⟩
  · obtain ⟨v, e1, e2⟩ := r.env i d e
    exact ⟨v, e1, e2.ext x⟩
  · exact (r.cell i c a e1 e2).ext x (upd_ne (hne a (List.mem_of_getElem? e2)))
  · by_cases hb : b = p
    · subst hb
      rw [upd_same] at e ⊢
      exact e
    · rw [upd_ne hb] at e ⊢
      exact r.fz b u e
  · rw [upd_ne (hne a ha)]
    exact r.sep a ha
  · rw [upd_ne (fun z => by rw [z, r.free0 h] at e1; cases e1)]
    exact r.fr a u e1 e2
  · by_cases hb : a = p
    · subst hb
      exact .inr (r.free0 h)
    · rw [upd_ne hb] at e
      exact r.new a u e
/-- a new own cell -/
theorem Rel.cellNew (r : Rel G ρ F st σ H) {p : Addr} {o : HO} {c : Cell} (h : H p = none) (hc : CellAt G.K (ρ ++ [p]) F (upd H p o) p c) : Ext ρ F (ρ ++ [p]) F ∧ Rel G (ρ ++ [p]) F ⟨st.env, st.cs ++ [c]⟩ σ (upd H p o) := by
  have x : Ext ρ F (ρ ++ [p]) F := ⟨List.prefix_append _ _, Same.refl _⟩
  have hne : ∀ a ∈ ρ, a ≠ p := fun a ha e => r.free h (e ▸ ha)
  refine ⟨x, ⟨r.len, fun i d e => ?_, ?_, fun i c' a e1 e2 => ?_, ?_, fun b u e => ?_, fun a ha => ?_, fun a u e1 e2 => ?_, fun a ha => ?_, r.new, r.old, r.a0.trans x.pre⟩⟩
  · obtain ⟨v, e1, e2⟩ := r.env i d e
    exact ⟨v, e1, e2.ext x⟩
  · show (ρ ++ [p]).length = (st.cs ++ [c]).length
    rw [List.length_append, List.length_append, r.cl]; rfl
  · by_cases hi : i < ρ.length
    · rw [List.getElem?_append_left hi] at e2
      rw [show (S.mk st.env (st.cs ++ [c])).cs = st.cs ++ [c] from rfl, List.getElem?_append_left (by rw [← r.cl]; exact hi)] at e1
      exact (r.cell i c' a e1 e2).ext x (upd_ne (hne a (List.mem_of_getElem? e2)))
    · have hi2 : i = ρ.length := by
        have := (List.getElem?_eq_some_iff.mp e2).1
        rw [List.length_append] at this
        have : i < ρ.length + 1 := this
        omega
      subst hi2
      have f2 : p = a := by
        rw [List.getElem?_append_right (Nat.le_refl _), Nat.sub_self] at e2
        exact Option.some.inj e2
      have f1 : c = c' := by
        rw [show (S.mk st.env (st.cs ++ [c])).cs = st.cs ++ [c] from rfl, List.getElem?_append_right (by rw [r.cl]; exact Nat.le_refl _), r.cl, Nat.sub_self] at e1
        exact Option.some.inj e1
      subst f1 f2
      exact hc
  · refine List.nodup_append.mpr ⟨r.nd, List.nodup_cons.mpr ⟨List.not_mem_nil, List.nodup_nil⟩, fun a ha b hb => ?_⟩
    rw [List.mem_singleton.mp hb]
    exact hne a ha
  · rw [upd_ne (ne_of_none (r.fz b u e) h)]
    exact r.fz b u e
  · rcases List.mem_append.mp ha with ha | ha
    · exact r.sep a ha
    · rw [List.mem_singleton.mp ha]
      exact r.freeF h
  · rw [upd_ne (fun z => by rw [z, r.free0 h] at e1; cases e1)]
    exact r.fr a u e1 e2
  · rcases List.mem_append.mp ha with ha | ha
    · exact r.own a ha
    · rw [List.mem_singleton.mp ha]
      exact .inr (r.free0 h)
/-- an own cell is changed -/
theorem Rel.cellSet (r : Rel G ρ F st σ H) {n : Nat} {a : Addr} {o : HO} {c : Cell} (ha : ρ[n]? = some a) (hc : CellAt G.K ρ F (upd H a o) a c) : Rel G ρ F ⟨st.env, st.cs.set n c⟩ σ (upd H a o) := by
  have hm : a ∈ ρ := List.mem_of_getElem? ha
  refine ⟨r.len, r.env, ?_, fun i c' b e1 e2 => ?_, r.nd, fun b u e => ?_, r.sep, fun b u e1 e2 => ?_, r.own, r.new, r.old, r.a0⟩
  · show ρ.length = (st.cs.set n c).length
    rw [List.length_set, r.cl]
  · by_cases hi : i = n
    · subst hi
      rw [ha] at e2
      cases e2
      have hl : i < st.cs.length := by rw [← r.cl]; exact (List.getElem?_eq_some_iff.mp ha).1
      rw [show (S.mk st.env (st.cs.set i c)).cs = st.cs.set i c from rfl, List.getElem?_set_self hl] at e1
      cases e1
      exact hc
    · rw [show (S.mk st.env (st.cs.set n c)).cs = st.cs.set n c from rfl, List.getElem?_set_ne (fun z => hi z.symm)] at e1
      have hb : b ≠ a := fun z => by
        subst z
        obtain ⟨h1, h1'⟩ := List.getElem?_eq_some_iff.mp e2
        obtain ⟨h2, h2'⟩ := List.getElem?_eq_some_iff.mp ha
        exact hi ((List.getElem_inj r.nd).mp (h1'.trans h2'.symm))
      exact (r.cell i c' b e1 e2).ext Ext.refl (upd_ne hb)
  · rw [upd_ne (fun z => by rw [z, r.sep a hm] at e; cases e)]
    exact r.fz b u e
  · have hb : b ≠ a := fun z => by
      subst z
      rcases r.own b hm with q | q
      · exact e2 q
      · rw [q] at e1; cases e1
    rw [upd_ne hb]
    exact r.fr b u e1 e2
/-- a slot is set -/
theorem Rel.slot (r : Rel G ρ F st σ H) {i : Nat} {d : D} {v : V} (h : RV G.K ρ F d v) : Rel G ρ F ⟨st.env.set i (some d), st.cs⟩ (σ.set i (some v)) H := by
  refine ⟨?_, fun j e h2 => ?_, r.cl, r.cell, r.nd, r.fz, r.sep, r.fr, r.own, r.new, r.old, r.a0⟩
  · show (st.env.set i (some d)).length = _
    rw [List.length_set, List.length_set, r.len]
  · by_cases hj : i = j
    · subst hj
      have hl : i < st.env.length := by
        have := (List.getElem?_eq_some_iff.mp h2).1
        rw [show (S.mk (st.env.set i (some d)) st.cs).env = st.env.set i (some d) from rfl, List.length_set] at this
        exact this
      rw [show (S.mk (st.env.set i (some d)) st.cs).env = st.env.set i (some d) from rfl, List.getElem?_set_self hl] at h2
      cases h2
      exact ⟨v, List.getElem?_set_self (by rw [← r.len]; exact hl), h⟩
    · rw [show (S.mk (st.env.set i (some d)) st.cs).env = st.env.set i (some d) from rfl, List.getElem?_set_ne hj] at h2
      obtain ⟨u, e1, e2⟩ := r.env j e h2
      exact ⟨u, by rw [List.getElem?_set_ne hj]; exact e1, e2⟩
/-- slots are forgotten -/
theorem Rel.forget (r : Rel G ρ F st σ H) {env' : List (Option D)} (hl : env'.length = st.env.length) (h : ∀ (i : Nat) (d : D), env'[i]? = some (some d) → st.env[i]? = some (some d)) : Rel G ρ F ⟨env', st.cs⟩ σ H :=
  ⟨hl.trans r.len, fun i d e => r.env i d (h i d e), r.cl, r.cell, r.nd, r.fz, r.sep, r.fr, r.own, r.new, r.old, r.a0⟩
end

/-! ### results and readings -/
inductive Out (α : Type) where
  | ok (a : α) (cs : List Cell)
  | ex (e : Exn) (cs : List Cell)
  | no
def Out.bind {α β : Type} : Out α → (α → List Cell → Out β) → Out β
  | .ok a cs, k => k a cs
  | .ex e cs, _ => .ex e cs
  | .no, _ => .no
/-- an exception e stands as the class cls with the own dict d -/
def XAt (K : Kt) (ρ : List Addr) (F : Hp) (e : Exn) (cls : Value) (d : Option Addr) : Prop :=
  cls = .ref (K.κ e.C) ∧ ∃ x vs, d = some x ∧ F x = some (.xd (e.ks.zip vs)) ∧ e.ks.length = vs.length ∧ RVs K ρ F e.ds vs
section
variable {α β γ δ : Type}
def Post (R : Kt → List Addr → Hp → α → β → Prop) (G : Gx) (W : WX) (ρ : List Addr) (F : Hp) (env : List (Option D)) (σ : St) (Q : β → Hp → Prop) : Out α → Prop
  | .ok d cs => ∀ ρ' F' H' v, Ext ρ F ρ' F' → Rel G ρ' F' ⟨env, cs⟩ σ H' → R G.K ρ' F' d v → Q v H'
  | .ex e cs => ∀ ρ' F' H' cls dx, Ext ρ F ρ' F' → Rel G ρ' F' ⟨env, cs⟩ σ H' → XAt G.K ρ' F' e cls dx → W cls dx σ H'
  | .no => False
def tX (R : Kt → List Addr → Hp → α → β → Prop) (G : Gx) (W : WX) (f : S → Out α) (σ : St) (H : Hp) (Q : β → Hp → Prop) : Prop :=
  ∃ ρ F st, Rel G ρ F st σ H ∧ Post R G W ρ F st.env σ Q (f st)
theorem Post.ext {R : Kt → List Addr → Hp → α → β → Prop} {G : Gx} {W : WX} {ρ ρ' : List Addr} {F F' : Hp} {env : List (Option D)} {σ : St} {Q : β → Hp → Prop} (x : Ext ρ F ρ' F') : ∀ {o : Out α}, Post R G W ρ F env σ Q o → Post R G W ρ' F' env σ Q o
  | .ok _ _, h => fun ρ2 F2 H2 v y r rv => h ρ2 F2 H2 v (x.trans y) r rv
  | .ex _ _, h => fun ρ2 F2 H2 c d y r rv => h ρ2 F2 H2 c d (x.trans y) r rv
  | .no, h => h
theorem seqX {R : Kt → List Addr → Hp → α → β → Prop} {R' : Kt → List Addr → Hp → γ → δ → Prop} {G : Gx} {W : WX} {ρ : List Addr} {F : Hp} {st : S} {σ : St} {H : Hp} {f : S → Out α} {k : α → List Cell → Out γ} {Q : δ → Hp → Prop} {Q' : β → Hp → Prop}
    (r : Rel G ρ F st σ H) (p : Post R' G W ρ F st.env σ Q ((f st).bind k))
    (h : ∀ ρ' F' H' a cs v, Ext ρ F ρ' F' → Rel G ρ' F' ⟨st.env, cs⟩ σ H' → R G.K ρ' F' a v → Post R' G W ρ' F' st.env σ Q (k a cs) → Q' v H') : tX R G W f σ H Q' := by
  refine ⟨ρ, F, st, r, ?_⟩
  cases e : f st with
  | ok a cs =>
    rw [e] at p
    exact fun ρ' F' H' v x r' rv => h ρ' F' H' a cs v x r' rv (Post.ext x p)
  | ex e' cs =>
    rw [e] at p
    exact p
  | no =>
    rw [e] at p
    exact p
theorem Post.here {R : Kt → List Addr → Hp → α → β → Prop} {G : Gx} {W : WX} {ρ : List Addr} {F : Hp} {st : S} {σ : St} {H : Hp} {Q : β → Hp → Prop} {d : α} {cs : List Cell} {v : β}
    (p : Post R G W ρ F st.env σ Q (.ok d cs)) (r : Rel G ρ F ⟨st.env, cs⟩ σ H) (h : R G.K ρ F d v) : Q v H := p ρ F H v Ext.refl r h
end
abbrev Ex := S → Out D
abbrev tE := @tX D V RV
abbrev tAs := @tX (List D) (List V) RVs
def RB (_ : Kt) (_ : List Addr) (_ : Hp) (a b : Bool) : Prop := a = b
abbrev tTs := @tX Bool Bool RB
theorem _root_.L2.PE.impV {X : Cx} {e : Expr} {t t' : TE} (h : PE X e t) (m : ∀ σ H Q, t' σ H Q → t σ H Q) : PE X e t' := ⟨fun pins s σ H Q I hw => h.run pins s σ H Q I (m _ _ _ hw)⟩
theorem _root_.L2.PT.impV {X : Cx} {e : Expr} {t t' : TT} (h : PT X e t) (m : ∀ σ H Q, t' σ H Q → t σ H Q) : PT X e t' := ⟨fun pins s σ H Q I hw => h.run pins s σ H Q I (m _ _ _ hw)⟩
theorem _root_.L2.PA.impV {X : Cx} {e : List Expr} {t t' : TA} (h : PA X e t) (m : ∀ σ H Q, t' σ H Q → t σ H Q) : PA X e t' := ⟨fun pos pins s σ H Q I hw => h.run pos pins s σ H Q I (m _ _ _ hw)⟩
theorem _root_.L2.PS.impV {X : Cx} {e : Stmt} {t t' : TS} (h : PS X e t) (m : ∀ D σ H, t' D σ H → t D σ H) : PS X e t' := ⟨fun pins s σ H D I hw => h.run pins s σ H D I (m _ _ _ hw)⟩
theorem _root_.L2.PSs.impV {X : Cx} {e : List Stmt} {t t' : TS} (h : PSs X e t) (m : ∀ D σ H, t' D σ H → t D σ H) : PSs X e t' := ⟨fun pins s σ H D I hw => h.run pins s σ H D I (m _ _ _ hw)⟩
end VL

namespace VL
open PySem L2

/-! ### lists of related values -/
section
variable {K : Kt} {ρ : List Addr} {F : Hp}
theorem RVs.length : ∀ {ds : List D} {vs : List V}, RVs K ρ F ds vs → ds.length = vs.length
  | _, _, .nil => rfl
  | _, _, .cons _ r => congrArg (· + 1) (RVs.length r)
theorem RVs.get : ∀ {ds : List D} {vs : List V} {i : Nat} {d : D}, RVs K ρ F ds vs → ds[i]? = some d → ∃ v, vs[i]? = some v ∧ RV K ρ F d v
  | _, _, _, _, .nil, e => by simp at e
  | _, _, 0, _, .cons h _, e => by
    simp only [List.getElem?_cons_zero, Option.some.injEq] at e
    subst e
    exact ⟨_, rfl, h⟩
  | _, _, i + 1, _, .cons _ r, e => by
    simp only [List.getElem?_cons_succ] at e ⊢
    exact RVs.get r e
theorem RVs.getV : ∀ {ds : List D} {vs : List V} {i : Nat} {v : V}, RVs K ρ F ds vs → vs[i]? = some v → ∃ d, ds[i]? = some d ∧ RV K ρ F d v
  | _, _, _, _, .nil, e => by simp at e
  | _, _, 0, _, .cons h _, e => by
    simp only [List.getElem?_cons_zero, Option.some.injEq] at e
    subst e
    exact ⟨_, rfl, h⟩
  | _, _, i + 1, _, .cons _ r, e => by
    simp only [List.getElem?_cons_succ] at e ⊢
    exact RVs.getV r e
theorem RVs.append : ∀ {ds es : List D} {vs ws : List V}, RVs K ρ F ds vs → RVs K ρ F es ws → RVs K ρ F (ds ++ es) (vs ++ ws)
  | _, _, _, _, .nil, s => s
  | _, _, _, _, .cons h r, s => .cons h (RVs.append r s)
theorem RVs.take : ∀ {ds : List D} {vs : List V} (n : Nat), RVs K ρ F ds vs → RVs K ρ F (ds.take n) (vs.take n)
  | _, _, 0, _ => .nil
  | _, _, _ + 1, .nil => .nil
  | _, _, n + 1, .cons h r => .cons h (RVs.take n r)
theorem RVs.drop : ∀ {ds : List D} {vs : List V} (n : Nat), RVs K ρ F ds vs → RVs K ρ F (ds.drop n) (vs.drop n)
  | _, _, 0, r => r
  | _, _, _ + 1, .nil => .nil
  | _, _, n + 1, .cons _ r => RVs.drop n r
theorem RVs.set {d : D} {v : V} (h : RV K ρ F d v) : ∀ {ds : List D} {vs : List V} (n : Nat), RVs K ρ F ds vs → RVs K ρ F (ds.set n d) (vs.set n v)
  | _, _, _, .nil => .nil
  | _, _, 0, .cons _ r => .cons h r
  | _, _, n + 1, .cons q r => .cons q (RVs.set h n r)
theorem RVs.reverse : ∀ {ds : List D} {vs : List V}, RVs K ρ F ds vs → RVs K ρ F ds.reverse vs.reverse
  | _, _, .nil => .nil
  | _, _, .cons h r => by
    rw [List.reverse_cons, List.reverse_cons]
    exact RVs.append (RVs.reverse r) (.cons h .nil)
theorem RVs.one {d : D} {v : V} (h : RV K ρ F d v) : RVs K ρ F [d] [v] := .cons h .nil
end

/-! ### what a sequence holds -/
def lstOf (cs : List Cell) : D → Option (List D)
  | .lst ds => some ds
  | .frl ds => some ds
  | .loc n => match cs[n]? with
    | some (.lst ds) => some ds
    | _ => none
  | _ => none
def tupOf : D → Option (List D)
  | .tup ds => some ds
  | _ => none
def seqOf (cs : List Cell) (d : D) : Option (List D) := match d with
  | .tup ds => some ds
  | d => lstOf cs d
section
variable {G : Gx} {ρ : List Addr} {F : Hp} {st : S} {σ : St} {H : Hp} {x : D} {v : V} {ds : List D}
theorem Rel.at (r : Rel G ρ F st σ H) {n : Nat} {c : Cell} {v : V} (h : RV G.K ρ F (.loc n) v) (e : st.cs[n]? = some c) : ∃ a, v = .ref a ∧ ρ[n]? = some a ∧ CellAt G.K ρ F H a c := by
  cases h with
  | loc h => exact ⟨_, rfl, h, r.cell n c _ e h⟩
theorem lst_read (r : Rel G ρ F st σ H) (h : RV G.K ρ F x v) (e : lstOf st.cs x = some ds) : ∃ a vs, v = .ref a ∧ SqL G.K.K H a vs ∧ RVs G.K ρ F ds vs := by
  cases h with
  | lst h1 h2 =>
    cases e
    exact ⟨_, _, rfl, SqL.of (r.fz _ _ h1), h2⟩
  | frl h1 h2 =>
    cases e
    exact ⟨_, _, rfl, r.fz.seq h1, h2⟩
  | loc h1 =>
    rename_i n a
    have e : (match st.cs[n]? with
      | some (.lst ds) => some ds
      | _ => none) = some ds := e
    cases q : st.cs[n]? with
    | none => rw [q] at e; cases e
    | some c =>
      rw [q] at e
      cases c with
      | lst es =>
        cases e
        obtain ⟨vs, h2, h3⟩ := r.cell n _ _ q h1
        exact ⟨_, _, rfl, SqL.of h2, h3⟩
      | _ => cases e
  | _ => cases e
theorem tup_read (r : Rel G ρ F st σ H) (h : RV G.K ρ F x v) (e : tupOf x = some ds) : ∃ a vs, v = .ref a ∧ SqT G.K.K H a vs ∧ RVs G.K ρ F ds vs := by
  cases h with
  | tup h1 h2 =>
    cases e
    exact ⟨_, _, rfl, sqT_same r.fz h1, h2⟩
  | _ => cases e
theorem seq_read (r : Rel G ρ F st σ H) (h : RV G.K ρ F x v) (e : seqOf st.cs x = some ds) : ∃ a vs, v = .ref a ∧ (SqL G.K.K H a vs ∨ SqT G.K.K H a vs) ∧ RVs G.K ρ F ds vs := by
  cases x with
  | tup es =>
    obtain ⟨a, vs, h1, h2, h3⟩ := tup_read r h (show tupOf (.tup es) = some ds from e)
    exact ⟨a, vs, h1, .inr h2, h3⟩
  | _ =>
    obtain ⟨a, vs, h1, h2, h3⟩ := lst_read r h e
    exact ⟨a, vs, h1, .inl h2, h3⟩
end

/-! ### names and constants -/
section
variable {X : Cx} {G : Gx} {W : WX}
def eVar (i : Nat) : Ex := fun st => match st.env[i]? with
  | some (some d) => .ok d st.cs
  | _ => .no
theorem de_var {e : Expr} {i : Nat} (h : PE X e (tVar i)) : PE X e (tE G W (eVar i)) := h.impV fun σ H Q ⟨ρ, F, st, r, p⟩ => by
  unfold eVar at p
  cases q : st.env[i]? with
  | none => rw [q] at p; exact p.elim
  | some o =>
    rw [q] at p
    cases o with
    | none => exact p.elim
    | some d =>
      obtain ⟨v, e1, e2⟩ := r.env i d q
      exact ⟨v, e1, p.here r e2⟩
def eC (d : D) : Ex := fun st => .ok d st.cs
theorem de_c {e : Expr} {v : V} {d : D} (h : PE X e (tC v)) (hv : ∀ ρ F, RV G.K ρ F d v) : PE X e (tE G W (eC d)) := h.impV fun σ H Q ⟨ρ, F, st, r, p⟩ => p.here r (hv ρ F)
theorem de_int {i j pos} : PE X (.Constant (.int i) j pos) (tE G W (eC (.int i))) := de_c pe_int fun _ _ => .int _
theorem de_bl {b j pos} : PE X (.Constant (.bool b) j pos) (tE G W (eC (.bl b))) := de_c pe_bl fun _ _ => .bl _
theorem de_non {j pos} : PE X (.Constant .none j pos) (tE G W (eC .non)) := de_c pe_non fun _ _ => .non
theorem de_str {x j pos} : PE X (.Constant (.str x) j pos) (tE G W (eC (.str x))) := de_c pe_str fun _ _ => .str _

/-! ### operators -/
abbrev F2 := List Cell → D → D → Out D
abbrev F1 := List Cell → D → Out D
def V2 (G : Gx) (W : WX) (r : R2) (g : F2) : Prop := ∀ (ρ : List Addr) (F : Hp) (st : S) (σ : St) (H : Hp) (x y : D) (v w : V) (Q : VK), Rel G ρ F st σ H → RV G.K ρ F x v → RV G.K ρ F y w → Post RV G W ρ F st.env σ Q (g st.cs x y) → r v w H Q
def V1 (G : Gx) (W : WX) (r : V → Hp → VK → Prop) (g : F1) : Prop := ∀ (ρ : List Addr) (F : Hp) (st : S) (σ : St) (H : Hp) (x : D) (v : V) (Q : VK), Rel G ρ F st σ H → RV G.K ρ F x v → Post RV G W ρ F st.env σ Q (g st.cs x) → r v H Q
def eOp (g : F2) (fa fb : Ex) : Ex := fun st => (fa st).bind fun x c1 => (fb ⟨st.env, c1⟩).bind fun y c2 => g c2 x y
def eUn (g : F1) (fa : Ex) : Ex := fun st => (fa st).bind fun x c1 => g c1 x
variable {a b : Expr} {fa fb : Ex} {pos : Pos}
theorem tOp_of {r : R2} {g : F2} (hv : V2 G W r g) : ∀ σ H Q, tE G W (eOp g fa fb) σ H Q → tOp r (tE G W fa) (tE G W fb) σ H Q := fun σ H Q ⟨ρ, F, st, r, p⟩ =>
  seqX r p fun ρ1 F1 H1 x c1 v x1 r1 rv1 p1 => seqX (st := ⟨st.env, c1⟩) r1 p1 fun ρ2 F2 H2 y c2 w x2 r2 rv2 p2 => hv ρ2 F2 ⟨st.env, c2⟩ σ H2 x y v w Q r2 (rv1.ext x2) rv2 p2
theorem de_op {op : Operator} {r : R2} {g : F2} (ho : OpR X (binaryOp op) r) (hv : V2 G W r g) (ha : PE X a (tE G W fa)) (hb : PE X b (tE G W fb)) : PE X (.BinOp a op b pos) (tE G W (eOp g fa fb)) :=
  (pe_op ho ha hb).impV (tOp_of hv)
theorem de_cmp {op : CmpOp} {r : R2} {g : F2} (ho : OpR X (compareOp op) r) (hv : V2 G W r g) (ha : PE X a (tE G W fa)) (hb : PE X b (tE G W fb)) (hm : behindInMarks op b = false) : PE X (.Compare a [op] [b] pos) (tE G W (eOp g fa fb)) :=
  (pe_cmpR ho ha hb hm).impV (tOp_of hv)
theorem de_un {op : UnaryOp} {r : V → Hp → VK → Prop} {g : F1} (ho : UnR X (unaryOp op) r) (hv : V1 G W r g) (ha : PE X a (tE G W fa)) : PE X (.UnaryOp op a pos) (tE G W (eUn g fa)) :=
  (pe_un ho ha).impV fun σ H Q ⟨ρ, F, st, r, p⟩ => seqX r p fun ρ1 F1 H1 x c1 v x1 r1 rv1 p1 => hv ρ1 F1 ⟨st.env, c1⟩ σ H1 x v Q r1 rv1 p1
end
end VL

namespace VL
open PySem L2
section
variable {X : Cx} {G : Gx} {W : WX} {a b : Expr} {fa fb : Ex} {pos : Pos}
/-! ### arithmetic -/
def gInt (C : Int → Int → Bool) (g : Int → Int → Int) : F2 := fun cs x y => match x, y with
  | .int i, .int j => if C i j then .ok (.int (g i j)) cs else .no
  | _, _ => .no
theorem v2_int {C : Int → Int → Bool} {C' : Int → Int → Prop} {g : Int → Int → Int} (h : ∀ i j, C i j = true → C' i j) : V2 G W (rI C' fun i j => .int (g i j)) (gInt C g) := by
  intro ρ F st σ H x y v w Q r h1 h2 p
  unfold gInt at p
  split at p
  case h_2 => exact p.elim
  cases h1; cases h2
  rename_i i j
  by_cases c : C i j = true
  · simp only [c, if_true] at p
    exact ⟨i, j, rfl, rfl, h i j c, p.here r (.int _)⟩
  · simp only [c, if_false] at p
    exact p.elim
def gSub : F2 := gInt (fun _ _ => true) fun i j => i - j
theorem v2_sub : V2 G W (rI (fun _ _ => True) fun i j => .int (i - j)) gSub := v2_int fun _ _ _ => trivial
theorem op_sub' : OpR X (binaryOp .Sub) (rI (fun _ _ => True) fun i j => .int (i - j)) := fun pins s σ H x y v u Q I rx ry ⟨i, j, e1, e2, _, q⟩ => op_sub pins s σ H x y v u Q I rx ry ⟨i, j, e1, e2, q⟩
theorem de_sub (ha : PE X a (tE G W fa)) (hb : PE X b (tE G W fb)) : PE X (.BinOp a .Sub b pos) (tE G W (eOp gSub fa fb)) := de_op op_sub' v2_sub ha hb
def cMul (i j : Int) : Bool := decide (-(2 ^ 64) < i) && decide (i < 2 ^ 64) || decide (-(2 ^ 64) < j) && decide (j < 2 ^ 64)
def cDiv (_ j : Int) : Bool := decide (0 < j) && decide (j < 1073741824)
def cMod (_ j : Int) : Bool := decide (0 < j)
def cPow (i j : Int) : Bool := decide (0 ≤ j) && decide (j ≤ 1000000) && decide (i.natAbs < 2 ^ 64)
def gFdiv : F2 := gInt cDiv fun i j => i / j
theorem de_fdiv (ha : PE X a (tE G W fa)) (hb : PE X b (tE G W fb)) : PE X (.BinOp a .FloorDiv b pos) (tE G W (eOp gFdiv fa fb)) :=
  de_op op_fdiv (v2_int fun i j c => by simpa [cDiv, CDiv] using c) ha hb
def gPow : F2 := gInt cPow fun i j => i ^ j.toNat
theorem de_pow (ha : PE X a (tE G W fa)) (hb : PE X b (tE G W fb)) : PE X (.BinOp a .Pow b pos) (tE G W (eOp gPow fa fb)) :=
  de_op op_pow (v2_int fun i j c => by
    simp only [cPow, Bool.and_eq_true, decide_eq_true_eq] at c
    exact ⟨c.1.1, c.1.2, c.2⟩) ha hb
def gMod : F2 := gInt cMod fun i j => i % j
theorem de_mod (ha : PE X a (tE G W fa)) (hb : PE X b (tE G W fb)) : PE X (.BinOp a .Mod b pos) (tE G W (eOp gMod fa fb)) :=
  de_op op_mod (v2_int fun i j c => by simpa [cMod] using c) ha hb
def gNeg : F1 := fun cs x => match x with
  | .int i => .ok (.int (-i)) cs
  | _ => .no
theorem de_neg (ha : PE X a (tE G W fa)) : PE X (.UnaryOp .USub a pos) (tE G W (eUn gNeg fa)) := de_un un_neg (by
  intro ρ F st σ H x v Q r h1 p
  cases h1 <;> try exact p.elim
  exact ⟨_, rfl, p.here r (.int _)⟩) ha

/-! ### + and * of anything -/
/-- a list of one's own making -/
def ownOf (cs : List Cell) : D → Option (List D)
  | .lst ds => some ds
  | .loc n => match cs[n]? with
    | some (.lst ds) => some ds
    | _ => none
  | _ => none
theorem own_read {ρ : List Addr} {F : Hp} {st : S} {σ : St} {H : Hp} {x : D} {v : V} {ds : List D} (r : Rel G ρ F st σ H) (h : RV G.K ρ F x v) (e : ownOf st.cs x = some ds) : ∃ a vs, v = .ref a ∧ H a = some (.lst vs) ∧ RVs G.K ρ F ds vs := by
  cases h with
  | lst h1 h2 =>
    cases e
    exact ⟨_, _, rfl, r.fz _ _ h1, h2⟩
  | loc h1 =>
    rename_i n a
    have e : (match st.cs[n]? with
      | some (.lst ds) => some ds
      | _ => none) = some ds := e
    cases q : st.cs[n]? with
    | none => rw [q] at e; cases e
    | some c =>
      rw [q] at e
      cases c with
      | lst es =>
        cases e
        obtain ⟨vs, h2, h3⟩ := r.cell n _ _ q h1
        exact ⟨_, _, rfl, h2, h3⟩
      | _ => cases e
  | _ => cases e
def gCatL : F2 := fun cs x y => match ownOf cs x, ownOf cs y with
  | some xs, some ys => if xs.length + ys.length ≤ 16777216 then .ok (.lst (xs ++ ys)) cs else .no
  | _, _ => .no
def gAdd : F2 := fun cs x y => match x, y with
  | .int i, .int j => .ok (.int (i + j)) cs
  | .str i, .str j => if i.length + j.length ≤ 16777216 then .ok (.str (i ++ j)) cs else .no
  | .tup xs, .tup ys => if xs.length + ys.length ≤ 16777216 then .ok (.tup (xs ++ ys)) cs else .no
  | x, y => gCatL cs x y
theorem line_of {n : Nat} (h : n ≤ 16777216) : n ≤ sizeLine := by rw [sizeLine_eq]; exact h
theorem catL_of {ρ : List Addr} {F : Hp} {st : S} {σ : St} {H : Hp} {x y : D} {v w : V} {Q : VK} (r : Rel G ρ F st σ H) (h1 : RV G.K ρ F x v) (h2 : RV G.K ρ F y w) (p : Post RV G W ρ F st.env σ Q (gCatL st.cs x y)) : rCat v w H Q := by
  unfold gCatL at p
  cases e1 : ownOf st.cs x with
  | none => simp only [e1] at p; exact p.elim
  | some xs =>
    cases e2 : ownOf st.cs y with
    | none => simp only [e1, e2] at p; exact p.elim
    | some ys =>
      simp only [e1, e2] at p
      obtain ⟨a1, vs, rfl, s1, r1⟩ := own_read r h1 e1
      obtain ⟨a2, ws, rfl, s2, r2⟩ := own_read r h2 e2
      by_cases c : xs.length + ys.length ≤ 16777216
      · simp only [c, if_true] at p
        refine ⟨a1, a2, vs, ws, rfl, rfl, s1, s2, line_of (by rw [← r1.length, ← r2.length]; exact c), fun q hq => ?_⟩
        obtain ⟨x1, r3⟩ := r.fresh (o := .lst (vs ++ ws)) hq
        exact p _ _ _ _ x1 r3 (.lst upd_same ((r1.append r2).ext x1))
      · simp only [c, if_false] at p
        exact p.elim
def rAddA (K : PySem.W.Frag) : R2 := fun x y H Q => (rI0 (fun i j => .int (i + j)) x y H Q ∨ (∃ i j, x = .str i ∧ y = .str j ∧ i.length + j.length ≤ sizeLine ∧ Q (.str (i ++ j)) H)) ∨ (rCatA K x y H Q ∨ rCat x y H Q)
theorem op_addA : OpR X (binaryOp .Add) (rAddA X.K) := (op_add.or op_add_str).or (op_catA.or op_cat)
theorem v2_add : V2 G W (rAddA G.K.K) gAdd := by
  intro ρ F st σ H x y v w Q r h1 h2 p
  unfold gAdd at p
  split at p
  · cases h1; cases h2
    exact .inl (.inl ⟨_, _, rfl, rfl, p.here r (.int _)⟩)
  · cases h1; cases h2
    rename_i i j
    by_cases c : i.length + j.length ≤ 16777216
    · simp only [c, if_true] at p
      exact .inl (.inr ⟨_, _, rfl, rfl, line_of c, p.here r (.str _)⟩)
    · simp only [c, if_false] at p
      exact p.elim
  · rename_i xs ys
    by_cases c : xs.length + ys.length ≤ 16777216
    · simp only [c, if_true] at p
      obtain ⟨a1, vs, rfl, s1, r1⟩ := tup_read r h1 rfl
      obtain ⟨a2, ws, rfl, s2, r2⟩ := tup_read r h2 rfl
      refine .inr (.inl ⟨a1, a2, vs, ws, rfl, rfl, s1, s2, line_of (by rw [← r1.length, ← r2.length]; exact c), fun e => ?_, fun _ e => ?_, fun _ _ q hq => ?_⟩)
      · subst e
        cases r1
        exact p.here r h2
      · subst e
        cases r2
        rw [List.append_nil] at p
        exact p.here r h1
      · obtain ⟨x1, r3⟩ := r.fresh (o := .tup (vs ++ ws)) hq
        exact p _ _ _ _ x1 r3 (.tup (SqT.of upd_same) ((r1.append r2).ext x1))
    · simp only [c, if_false] at p
      exact p.elim
  · exact .inr (.inr (catL_of r h1 h2 p))
theorem de_add (hK : X.K = G.K.K) (ha : PE X a (tE G W fa)) (hb : PE X b (tE G W fb)) : PE X (.BinOp a .Add b pos) (tE G W (eOp gAdd fa fb)) := de_op op_addA (by rw [hK]; exact v2_add) ha hb
def gMul : F2 := fun cs x y => match x, y with
  | .int i, .int j => if cMul i j then .ok (.int (i * j)) cs else .no
  | x, .int k => match ownOf cs x with
    | some xs => if 0 ≤ k ∧ k ≤ 16777216 ∧ xs.length * k.toNat ≤ 16777216 then .ok (.lst (List.replicate k.toNat xs).flatten) cs else .no
    | none => .no
  | _, _ => .no
theorem RVs.rep {K : Kt} {ρ : List Addr} {F : Hp} {ds : List D} {vs : List V} (h : RVs K ρ F ds vs) : ∀ n : Nat, RVs K ρ F (List.replicate n ds).flatten (List.replicate n vs).flatten
  | 0 => .nil
  | n + 1 => by
    rw [List.replicate_succ, List.replicate_succ, List.flatten_cons, List.flatten_cons]
    exact h.append (RVs.rep h n)
theorem v2_mul : V2 G W (fun x y H Q => rI CMul (fun i j => .int (i * j)) x y H Q ∨ rRep x y H Q) gMul := by
  intro ρ F st σ H x y v w Q r h1 h2 p
  unfold gMul at p
  split at p
  · cases h1; cases h2
    rename_i i j
    by_cases c : cMul i j = true
    · simp only [c, if_true] at p
      refine .inl ⟨_, _, rfl, rfl, ?_, p.here r (.int _)⟩
      simp only [cMul, Bool.or_eq_true, Bool.and_eq_true, decide_eq_true_eq] at c
      exact c
    · simp only [c, if_false] at p
      exact p.elim
  · rename_i k _
    cases h2
    cases e1 : ownOf st.cs x with
    | none => simp only [e1] at p; exact p.elim
    | some xs =>
      simp only [e1] at p
      obtain ⟨a1, vs, rfl, s1, r1⟩ := own_read r h1 e1
      by_cases c : 0 ≤ k ∧ k ≤ 16777216 ∧ xs.length * k.toNat ≤ 16777216
      · simp only [c, if_true] at p
        refine .inr ⟨a1, k, vs, rfl, rfl, s1, by omega, by omega, line_of (by rw [← r1.length]; exact c.2.2), fun q hq => ?_⟩
        obtain ⟨x1, r3⟩ := r.fresh (o := .lst (List.replicate k.toNat vs).flatten) hq
        exact p _ _ _ _ x1 r3 (.lst upd_same ((r1.rep k.toNat).ext x1))
      · simp only [c, if_false] at p
        exact p.elim
  · exact p.elim
theorem de_mul (ha : PE X a (tE G W fa)) (hb : PE X b (tE G W fb)) : PE X (.BinOp a .Mult b pos) (tE G W (eOp gMul fa fb)) := de_op (op_mul.or op_rep) v2_mul ha hb

/-! ### deep == -/
mutual
def py : D → PyData
  | .non => .none
  | .bl b => .bool b
  | .int i => .int i
  | .str x => .str x
  | .tup ds => .tuple (pys ds)
  | .lst ds => .list (pys ds)
  | .frl ds => .list (pys ds)
  | .obj _ _ _ => .none
  | .cls _ => .none
  | .loc _ => .none
def pys : List D → List PyData
  | [] => []
  | d :: r => py d :: pys r
end
mutual
def plain : D → Bool
  | .non => true
  | .bl _ => true
  | .int _ => true
  | .str _ => true
  | .tup ds => plains ds
  | .lst ds => plains ds
  | .frl ds => plains ds
  | .obj _ _ _ => false
  | .cls _ => false
  | .loc _ => false
def plains : List D → Bool
  | [] => true
  | d :: r => plain d && plains r
end
mutual
theorem dp_of {K : Kt} {ρ : List Addr} {F H : Hp} (s : Same F H) : ∀ {d : D} {v : V}, RV K ρ F d v → plain d = true → Dp K.K H v (py d)
  | _, _, .non, _ => .non
  | _, _, .bl b, _ => .bl b
  | _, _, .int i, _ => .int i
  | _, _, .str x, _ => .str x
  | _, _, .tup h r, e => .tup (sqT_same s h) (dps_of s r (by simpa [plain] using e))
  | _, _, .lst h r, e => .lst (SqL.of (s _ _ h)) (dps_of s r (by simpa [plain] using e))
  | _, _, .frl h r, e => .lst (s.seq h) (dps_of s r (by simpa [plain] using e))
  | _, _, .cls _, e => by simp [plain] at e
theorem dps_of {K : Kt} {ρ : List Addr} {F H : Hp} (s : Same F H) : ∀ {ds : List D} {vs : List V}, RVs K ρ F ds vs → plains ds = true → DpAll K.K H vs (pys ds)
  | _, _, .nil, _ => .nil
  | _, _, .cons h r, e => by
    simp only [plains, Bool.and_eq_true] at e
    exact .cons (dp_of s h e.1) (dps_of s r e.2)
end
/-- what stands there, a cell opened -/
def norm (cs : List Cell) : D → D
  | .loc n => match cs[n]? with
    | some (.lst ds) => .lst ds
    | _ => .loc n
  | d => d
theorem dp_norm {ρ : List Addr} {F : Hp} {st : S} {σ : St} {H : Hp} {x : D} {v : V} (r : Rel G ρ F st σ H) (h : RV G.K ρ F x v) (e : plain (norm st.cs x) = true) : Dp G.K.K H v (py (norm st.cs x)) := by
  cases h with
  | loc h1 =>
    rename_i n a
    unfold norm at e ⊢
    simp only at e ⊢
    cases q : st.cs[n]? with
    | none => simp only [q, plain] at e; cases e
    | some c =>
      cases c with
      | lst es =>
        obtain ⟨vs, h2, h3⟩ := r.cell n _ _ q h1
        simp only [q, plain, py] at e ⊢
        exact .lst (SqL.of h2) (dps_of r.fz h3 e)
      | dk _ _ => simp only [q, plain] at e; cases e
      | ins _ _ _ => simp only [q, plain] at e; cases e
  | non => exact .non
  | bl b => exact .bl b
  | int i => exact .int i
  | str x => exact .str x
  | tup h r' => exact dp_of r.fz (.tup h r') e
  | lst h r' => exact dp_of r.fz (.lst h r') e
  | frl h r' => exact dp_of r.fz (.frl h r') e
  | cls C => exact dp_of (ρ := ρ) r.fz (.cls C) e
  | obj => cases e
def gEqB (neg : Bool) : F2 := fun cs x y =>
  let p := norm cs x
  let q := norm cs y
  if plain p && plain q && SeqAt.shaped (py p) && SeqAt.shaped (py q) then .ok (.bl (if neg then !PyData.eqv (py p) (py q) else PyData.eqv (py p) (py q))) cs else .no
theorem v2_eq : V2 G W (rEqD G.K.K) (gEqB false) := by
  intro ρ F st σ H x y v w Q r h1 h2 p
  unfold gEqB at p
  by_cases c : (plain (norm st.cs x) && plain (norm st.cs y) && SeqAt.shaped (py (norm st.cs x)) && SeqAt.shaped (py (norm st.cs y))) = true
  · simp only [c, if_true] at p
    simp only [Bool.and_eq_true] at c
    exact ⟨_, _, dp_norm r h1 c.1.1.1, dp_norm r h2 c.1.1.2, c.1.2, c.2, p.here r (.bl _)⟩
  · simp only [c, if_false] at p
    exact p.elim
theorem v2_ne : V2 G W (rNeD G.K.K) (gEqB true) := by
  intro ρ F st σ H x y v w Q r h1 h2 p
  unfold gEqB at p
  by_cases c : (plain (norm st.cs x) && plain (norm st.cs y) && SeqAt.shaped (py (norm st.cs x)) && SeqAt.shaped (py (norm st.cs y))) = true
  · simp only [c, if_true] at p
    simp only [Bool.and_eq_true] at c
    exact ⟨_, _, dp_norm r h1 c.1.1.1, dp_norm r h2 c.1.1.2, c.1.2, c.2, p.here r (.bl _)⟩
  · simp only [c, if_false] at p
    exact p.elim
theorem de_eq (hK : X.K = G.K.K) (hu : X.A.units + 64 < cLine) (ha : PE X a (tE G W fa)) (hb : PE X b (tE G W fb)) : PE X (.Compare a [.Eq] [b] pos) (tE G W (eOp (gEqB false) fa fb)) := de_cmp (op_eqD hu) (by rw [hK]; exact v2_eq) ha hb (nomark _)
theorem de_ne (hK : X.K = G.K.K) (hu : X.A.units + 64 < cLine) (ha : PE X a (tE G W fa)) (hb : PE X b (tE G W fb)) : PE X (.Compare a [.NotEq] [b] pos) (tE G W (eOp (gEqB true) fa fb)) := de_cmp (op_neD hu) (by rw [hK]; exact v2_ne) ha hb (nomark _)

/-! ### order, is -/
def gOrd (g : Int → Int → Bool) (h : List Nat → List Nat → Bool) : F2 := fun cs x y => match x, y with
  | .int i, .int j => .ok (.bl (g i j)) cs
  | .str i, .str j => .ok (.bl (h i.cps.toList j.cps.toList)) cs
  | _, _ => .no
theorem v2_ord {g : Int → Int → Bool} {h : List Nat → List Nat → Bool} : V2 G W (fun x y H Q => rI0 (fun i j => .bl (g i j)) x y H Q ∨ ∃ i j, x = .str i ∧ y = .str j ∧ Q (.bl (h i.cps.toList j.cps.toList)) H) (gOrd g h) := by
  intro ρ F st σ H x y v w Q r h1 h2 p
  unfold gOrd at p
  split at p
  · cases h1; cases h2
    exact .inl ⟨_, _, rfl, rfl, p.here r (.bl _)⟩
  · cases h1; cases h2
    exact .inr ⟨_, _, rfl, rfl, p.here r (.bl _)⟩
  · exact p.elim
def gLt : F2 := gOrd (fun i j => decide (i < j)) fun i j => decide (i < j)
def gLe : F2 := gOrd (fun i j => decide (i ≤ j)) fun i j => !decide (j < i)
def gGt : F2 := gOrd (fun i j => decide (j < i)) fun i j => decide (j < i)
def gGe : F2 := gOrd (fun i j => decide (j ≤ i)) fun i j => !decide (i < j)
theorem de_lt (ha : PE X a (tE G W fa)) (hb : PE X b (tE G W fb)) : PE X (.Compare a [.Lt] [b] pos) (tE G W (eOp gLt fa fb)) := de_cmp (op_lt.or op_lt_str) v2_ord ha hb (nomark _)
theorem de_le (ha : PE X a (tE G W fa)) (hb : PE X b (tE G W fb)) : PE X (.Compare a [.LtE] [b] pos) (tE G W (eOp gLe fa fb)) := de_cmp (op_le.or op_le_str) v2_ord ha hb (nomark _)
theorem de_gt (ha : PE X a (tE G W fa)) (hb : PE X b (tE G W fb)) : PE X (.Compare a [.Gt] [b] pos) (tE G W (eOp gGt fa fb)) := de_cmp (op_gt.or op_gt_str) v2_ord ha hb (nomark _)
theorem de_ge (ha : PE X a (tE G W fa)) (hb : PE X b (tE G W fb)) : PE X (.Compare a [.GtE] [b] pos) (tE G W (eOp gGe fa fb)) := de_cmp (op_ge.or op_ge_str) v2_ord ha hb (nomark _)
def isNon : D → Bool
  | .non => true
  | _ => false
theorem isNon_of {K : Kt} {ρ : List Addr} {F : Hp} {d : D} {v : V} (h : RV K ρ F d v) : decide (v = .non) = isNon d := by
  cases h <;> first | rfl | (exact decide_eq_false (fun z => nomatch z))
def gIs (neg : Bool) : F2 := fun cs x y => match x, y with
  | x, .non => .ok (.bl (if neg then !isNon x else isNon x)) cs
  | .bl i, .bl j => .ok (.bl (if neg then !decide (i = j) else decide (i = j))) cs
  | _, _ => .no
theorem de_is (ha : PE X a (tE G W fa)) (hb : PE X b (tE G W fb)) : PE X (.Compare a [.Is] [b] pos) (tE G W (eOp (gIs false) fa fb)) := de_cmp (op_isN.or op_isBl) (by
  intro ρ F st σ H x y v w Q r h1 h2 p
  unfold gIs at p
  split at p
  · cases h2
    refine .inl ⟨rfl, ?_⟩
    rw [isNon_of h1]
    exact p.here r (.bl _)
  · cases h1; cases h2
    exact .inr ⟨_, _, rfl, rfl, p.here r (.bl _)⟩
  · exact p.elim) ha hb (nomark _)
theorem de_isnot (ha : PE X a (tE G W fa)) (hb : PE X b (tE G W fb)) : PE X (.Compare a [.IsNot] [b] pos) (tE G W (eOp (gIs true) fa fb)) := de_cmp (op_notN.or op_notBl) (by
  intro ρ F st σ H x y v w Q r h1 h2 p
  unfold gIs at p
  split at p
  · cases h2
    refine .inl ⟨rfl, ?_⟩
    rw [isNon_of h1]
    exact p.here r (.bl _)
  · cases h1; cases h2
    exact .inr ⟨_, _, rfl, rfl, p.here r (.bl _)⟩
  · exact p.elim) ha hb (nomark _)

/-! ### in -/
def flatD : D → Bool
  | .non => true
  | .bl _ => true
  | .int _ => true
  | .str _ => true
  | _ => false
def eqF : D → D → Bool
  | .non, .non => true
  | .bl a, .bl b => a == b
  | .bl a, .int b => (if a then 1 else 0) == b
  | .int a, .bl b => a == (if b then 1 else 0)
  | .int a, .int b => a == b
  | .str a, .str b => a == b
  | _, _ => false
theorem flat_of {K : Kt} {ρ : List Addr} {F : Hp} {d : D} {v : V} (h : RV K ρ F d v) (e : flatD d = true) : flatV v = true := by
  cases h <;> first | rfl | cases e
theorem eqF_of {K : Kt} {ρ : List Addr} {F : Hp} {d d' : D} {v v' : V} (h : RV K ρ F d v) (h' : RV K ρ F d' v') (e : flatD d = true) (e' : flatD d' = true) : eqV v v' = eqF d d' := by
  cases h with
  | non => cases h' with
    | non => rfl
    | bl => rfl
    | int => rfl
    | str => rfl
    | _ => exact Bool.noConfusion e'
  | bl => cases h' with
    | non => rfl
    | bl => rfl
    | int => rfl
    | str => rfl
    | _ => exact Bool.noConfusion e'
  | int => cases h' with
    | non => rfl
    | bl => rfl
    | int => rfl
    | str => rfl
    | _ => exact Bool.noConfusion e'
  | str => cases h' with
    | non => rfl
    | bl => rfl
    | int => rfl
    | str => rfl
    | _ => exact Bool.noConfusion e'
  | _ => exact Bool.noConfusion e
def inD (x : D) (ds : List D) : Bool := ds.any fun y => eqF y x
theorem inD_of {K : Kt} {ρ : List Addr} {F : Hp} {d : D} {v : V} (h : RV K ρ F d v) (e : flatD d = true) : ∀ {ds : List D} {vs : List V}, RVs K ρ F ds vs → ds.all flatD = true → vs.all flatV = true ∧ inV v vs = inD d ds
  | _, _, .nil, _ => ⟨rfl, rfl⟩
  | _, _, .cons h' r, f => by
    rw [List.all_cons, Bool.and_eq_true] at f
    obtain ⟨q1, q2⟩ := inD_of h e r f.2
    refine ⟨by rw [List.all_cons, flat_of h' f.1, q1]; rfl, ?_⟩
    unfold inV inD at q2 ⊢
    rw [List.any_cons, List.any_cons, eqF_of h' h f.1 e, q2]
/-- one sign -/
def sign1 (x : Str) : Option Nat := match x.cps.toList with
  | [c] => some c
  | _ => none
def gIn (neg : Bool) : F2 := fun cs x y => match x, y with
  | .str s, .str z => match sign1 s with
    | some c => .ok (.bl (if neg then !decide (c ∈ z.cps.toList) else decide (c ∈ z.cps.toList))) cs
    | none => .no
  | x, y => match seqOf cs y with
    | some ds => if flatD x && ds.all flatD then .ok (.bl (if neg then !inD x ds else inD x ds)) cs else .no
    | none => .no
theorem sign1_eq {x : Str} {c : Nat} (h : sign1 x = some c) : x = ⟨#[c]⟩ := by
  unfold sign1 at h
  obtain ⟨⟨l⟩⟩ := x
  cases l with
  | nil => cases h
  | cons a l =>
    cases l with
    | nil => cases h; rfl
    | cons b l => cases h
theorem in_of {neg : Bool} {ρ : List Addr} {F : Hp} {st : S} {σ : St} {H : Hp} {x y : D} {v w : V} {Q : VK} (r : Rel G ρ F st σ H) (h1 : RV G.K ρ F x v) (h2 : RV G.K ρ F y w) (p : Post RV G W ρ F st.env σ Q (gIn neg st.cs x y)) :
    (∃ (c : Nat) (z : Str), v = .str ⟨#[c]⟩ ∧ w = .str z ∧ Q (.bl (if neg then !decide (c ∈ z.cps.toList) else decide (c ∈ z.cps.toList))) H) ∨ rIn G.K.K neg v w H Q := by
  unfold gIn at p
  split at p
  · cases h1; cases h2
    rename_i s z
    cases e : sign1 s with
    | none => simp only [e] at p; exact p.elim
    | some c =>
      simp only [e] at p
      have := sign1_eq e
      subst this
      exact .inl ⟨c, z, rfl, rfl, p.here r (.bl _)⟩
  · cases e : seqOf st.cs y with
    | none => simp only [e] at p; exact p.elim
    | some ds =>
      simp only [e] at p
      by_cases c : (flatD x && ds.all flatD) = true
      · simp only [c, if_true] at p
        obtain ⟨a2, ws, rfl, s2, r2⟩ := seq_read r h2 e
        rw [Bool.and_eq_true] at c
        obtain ⟨q1, q2⟩ := inD_of h1 c.1 r2 c.2
        refine .inr ⟨a2, ws, rfl, s2, flat_of h1 c.1, q1, ?_⟩
        rw [q2]
        exact p.here r (.bl _)
      · simp only [c, if_false] at p
        exact p.elim
theorem de_in (hK : X.K = G.K.K) (ha : PE X a (tE G W fa)) (hb : PE X b (tE G W fb)) (hm : behindInMarks .In b = false := by rfl) : PE X (.Compare a [.In] [b] pos) (tE G W (eOp (gIn false) fa fb)) :=
  de_cmp (op_in_sign.or op_in_seq) (by rw [hK]; exact fun ρ F st σ H x y v w Q r h1 h2 p => in_of r h1 h2 p) ha hb hm
theorem de_notin (hK : X.K = G.K.K) (ha : PE X a (tE G W fa)) (hb : PE X b (tE G W fb)) (hm : behindInMarks .NotIn b = false := by rfl) : PE X (.Compare a [.NotIn] [b] pos) (tE G W (eOp (gIn true) fa fb)) :=
  de_cmp (op_notIn_sign.or op_notIn_seq) (by rw [hK]; exact fun ρ F st σ H x y v w Q r h1 h2 p => in_of r h1 h2 p) ha hb hm
end
end VL

namespace VL
open PySem L2
section
variable {X : Cx} {G : Gx} {W : WX} {a b c e : Expr} {es : List Expr} {fa fb fc : Ex} {pos : Pos}
/-! ### arguments, displays -/
abbrev Ax := S → Out (List D)
def aNil : Ax := fun st => .ok [] st.cs
def aCons (f : Ex) (g : Ax) : Ax := fun st => (f st).bind fun x c1 => (g ⟨st.env, c1⟩).bind fun xs c2 => .ok (x :: xs) c2
theorem da_nil : PA X [] (tAs G W aNil) := pa_nil.impV fun σ H Q ⟨ρ, F, st, r, p⟩ => p.here r .nil
theorem da_cons {g : Ax} (h : PE X e (tE G W fa)) (hr : PA X es (tAs G W g)) (hs : starEach (e :: es) X.env = (false, eval e X.env) :: starEach es X.env := by rfl) : PA X (e :: es) (tAs G W (aCons fa g)) :=
  (pa_cons h hr hs).impV fun σ H Q ⟨ρ, F, st, r, p⟩ => seqX r p fun ρ1 F1 H1 x c1 v x1 r1 rv1 p1 => seqX (st := ⟨st.env, c1⟩) r1 p1 fun ρ2 F2 H2 xs c2 vs x2 r2 rv2 p2 => p2.here (st := ⟨st.env, c2⟩) r2 (.cons (rv1.ext x2) rv2)
def eTup (g : Ax) : Ex := fun st => (g st).bind fun xs c1 => if xs.length ≤ 16777216 then .ok (.tup xs) c1 else .no
theorem de_tup {g : Ax} {x1} (h : PA X es (tAs G W g)) : PE X (.Tuple es x1 pos) (tE G W (eTup g)) :=
  (pe_tup h).impV fun σ H Q ⟨ρ, F, st, r, p⟩ => seqX r p fun ρ1 F1 H1 xs c1 vs x1 r1 rv1 p1 => by
    by_cases c : xs.length ≤ 16777216
    · simp only [c, if_true] at p1
      refine ⟨line_of (by rw [← rv1.length]; exact c), fun q hq => ?_⟩
      obtain ⟨x2, r2⟩ := r1.fresh (o := .tup vs) hq
      exact p1 _ _ _ _ x2 r2 (.tup (SqT.of upd_same) (rv1.ext x2))
    · simp only [c, if_false] at p1
      exact p1.elim
/-- a list that stays as it is -/
def eLst (g : Ax) : Ex := fun st => (g st).bind fun xs c1 => if xs.length ≤ 16777216 then .ok (.lst xs) c1 else .no
theorem de_lst {g : Ax} (h : PA X es (tAs G W g)) : PE X (.List es pos) (tE G W (eLst g)) :=
  (pe_lst h).impV fun σ H Q ⟨ρ, F, st, r, p⟩ => seqX r p fun ρ1 F1 H1 xs c1 vs x1 r1 rv1 p1 => by
    by_cases c : xs.length ≤ 16777216
    · simp only [c, if_true] at p1
      refine ⟨line_of (by rw [← rv1.length]; exact c), fun q hq => ?_⟩
      obtain ⟨x2, r2⟩ := r1.fresh (o := .lst vs) hq
      exact p1 _ _ _ _ x2 r2 (.lst upd_same (rv1.ext x2))
    · simp only [c, if_false] at p1
      exact p1.elim
/-- a new own cell -/
def newCell (ds : List D) (cs : List Cell) : Out D := .ok (.loc cs.length) (cs ++ [.lst ds])
theorem newCell_of {ρ : List Addr} {F : Hp} {st : S} {σ : St} {H : Hp} {ds : List D} {vs : List V} {q : Addr} {Q : VK} (r : Rel G ρ F st σ H) (rv : RVs G.K ρ F ds vs) (hq : H q = none) (p : Post RV G W ρ F st.env σ Q (newCell ds st.cs)) : Q (.ref q) (upd H q (.lst vs)) := by
  have y : Ext ρ F (ρ ++ [q]) F := ⟨List.prefix_append _ _, Same.refl _⟩
  obtain ⟨x2, r2⟩ := r.cellNew (p := q) (o := .lst vs) (c := .lst ds) hq ⟨vs, upd_same, rv.ext y⟩
  refine p _ _ _ _ x2 r2 (.loc ?_)
  rw [← r.cl, List.getElem?_append_right (Nat.le_refl _), Nat.sub_self]
  rfl
def eLoc (g : Ax) : Ex := fun st => (g st).bind fun xs c1 => if xs.length ≤ 16777216 then newCell xs c1 else .no
theorem de_loc {g : Ax} (h : PA X es (tAs G W g)) : PE X (.List es pos) (tE G W (eLoc g)) :=
  (pe_lst h).impV fun σ H Q ⟨ρ, F, st, r, p⟩ => seqX r p fun ρ1 F1 H1 xs c1 vs x1 r1 rv1 p1 => by
    by_cases c : xs.length ≤ 16777216
    · simp only [c, if_true] at p1
      exact ⟨line_of (by rw [← rv1.length]; exact c), fun q hq => newCell_of (st := ⟨st.env, c1⟩) r1 rv1 hq p1⟩
    · simp only [c, if_false] at p1
      exact p1.elim
/-! ### subscripts -/
def gIx : F2 := fun cs x y => match x, y with
  | .str z, .int i => if z.length ≤ 16777216 then (match atI z.cps.toList i with
    | some c => .ok (.str ⟨#[c]⟩) cs
    | none => .no) else .no
  | x, .int i => match seqOf cs x with
    | some ds => (match atI ds i with
      | some d => .ok d cs
      | none => .no)
    | none => .no
  | _, _ => .no
theorem atI_rel {K : Kt} {ρ : List Addr} {F : Hp} {ds : List D} {vs : List V} {i : Int} {d : D} (r : RVs K ρ F ds vs) (h : atI ds i = some d) : ∃ v, atI vs i = some v ∧ RV K ρ F d v := by
  unfold atI at h ⊢
  rw [← r.length]
  cases q : ixN ds.length i with
  | none => rw [q] at h; cases h
  | some j =>
    rw [q] at h
    exact r.get h
theorem v2_ix : V2 G W (rIx G.K.K) gIx := by
  intro ρ F st σ H x y v w Q r h1 h2 p
  unfold gIx at p
  split at p
  · cases h1; cases h2
    rename_i z i
    by_cases c : z.length ≤ 16777216
    · simp only [c, if_true] at p
      cases q : atI z.cps.toList i with
      | none => simp only [q] at p; exact p.elim
      | some k =>
        simp only [q] at p
        exact .inr (.inr ⟨_, _, k, rfl, rfl, line_of c, q, p.here r (.str _)⟩)
    · simp only [c, if_false] at p
      exact p.elim
  · cases h2
    rename_i i _
    cases q : seqOf st.cs x with
    | none => simp only [q] at p; exact p.elim
    | some ds =>
      simp only [q] at p
      cases q2 : atI ds i with
      | none => simp only [q2] at p; exact p.elim
      | some d =>
        simp only [q2] at p
        obtain ⟨a2, ws, rfl, s2, r2⟩ := seq_read r h1 q
        obtain ⟨u, e1, e2⟩ := atI_rel r2 q2
        rcases s2 with s2 | s2
        · exact .inl ⟨_, _, _, u, rfl, rfl, s2, e1, p.here r e2⟩
        · exact .inr (.inl ⟨_, _, _, u, rfl, rfl, s2, e1, p.here r e2⟩)
  · exact p.elim
theorem de_ix (hK : X.K = G.K.K) (ha : PE X a (tE G W fa)) (hb : PE X b (tE G W fb)) (hs : PlainIx b := by intro _ _; rfl) : PE X (.Subscript a b pos) (tE G W (eOp gIx fa fb)) := by
  refine (pe_ix ix_seq ha hb hs).impV (tOp_of ?_)
  rw [hK]
  exact v2_ix
/-! ### slices -/
def cutD (xs : List D) (lo hi : Option Int) : List D := (xs.drop (HT.sIx xs.length 0 lo)).take (HT.sIx xs.length xs.length hi - HT.sIx xs.length 0 lo)
theorem cut_rel {K : Kt} {ρ : List Addr} {F : Hp} {ds : List D} {vs : List V} {lo hi : Option Int} (r : RVs K ρ F ds vs) : RVs K ρ F (cutD ds lo hi) (cutV vs lo hi) := by
  unfold cutD cutV
  rw [r.length]
  exact (r.drop _).take _
def RO (_ : Kt) (_ : List Addr) (_ : Hp) (a b : Option Int) : Prop := a = b
abbrev tOs := @tX (Option Int) (Option Int) RO
abbrev Ox := S → Out (Option Int)
def oNone : Ox := fun st => .ok none st.cs
def oSome (f : Ex) : Ox := fun st => (f st).bind fun x c1 => match x with
  | .int i => .ok (some i) c1
  | _ => .no
theorem _root_.L2.PO.impV {X : Cx} {e : Option Expr} {t t' : TO} (h : PO X e t) (m : ∀ σ H Q, t' σ H Q → t σ H Q) : PO X e t' := ⟨fun pins s σ H Q I hw => h.run pins s σ H Q I (m _ _ _ hw)⟩
theorem do_none : PO X none (tOs G W oNone) := po_none.impV fun σ H Q ⟨ρ, F, st, r, p⟩ => p.here r rfl
theorem do_some (h : PE X e (tE G W fa)) : PO X (some e) (tOs G W (oSome fa)) := (po_some h).impV fun σ H Q ⟨ρ, F, st, r, p⟩ => seqX r p fun ρ1 F1 H1 x c1 v x1 r1 rv1 p1 => by
  cases rv1 <;> first
    | exact ⟨_, rfl, p1.here (st := ⟨st.env, c1⟩) r1 rfl⟩
    | exact p1.elim
/-- a slice; new: an own cell of a list's -/
def gSl (own : Bool) (cs : List Cell) (x : D) (lo hi : Option Int) : Out D := match x with
  | .str z => if z.length ≤ 16777216 then .ok (.str (cutS z lo hi)) cs else .no
  | .tup xs => .ok (.tup (cutD xs lo hi)) cs
  | x => match lstOf cs x with
    | some xs => if own then newCell (cutD xs lo hi) cs else .ok (.lst (cutD xs lo hi)) cs
    | none => .no
def eSl (own : Bool) (f : Ex) (l h : Ox) : Ex := fun st => (f st).bind fun x c1 => (l ⟨st.env, c1⟩).bind fun lo c2 => (h ⟨st.env, c2⟩).bind fun hi c3 => gSl own c3 x lo hi
def rSlAny (K : PySem.W.Frag) : V → Option Int → Option Int → Hp → VK → Prop := fun x lo hi H Q => rSlS x lo hi H Q ∨ (rSlA K x lo hi H Q ∨ rSlL K x lo hi H Q)
theorem sl_any : SlR X (rSlAny X.K) := SlR.or sl_str (SlR.or sl_tupA sl_list)
theorem cut_whole {K : PySem.W.Frag} {vs : List V} {lo hi : Option Int} (h : HT.sIx vs.length 0 lo = 0 ∧ HT.sIx vs.length vs.length hi = vs.length) : cutV vs lo hi = vs := by
  unfold cutV
  rw [h.1, h.2, List.drop_zero, Nat.sub_zero, List.take_length]
theorem sl_of {own : Bool} {ρ : List Addr} {F : Hp} {st : S} {σ : St} {H : Hp} {x : D} {v : V} {lo hi : Option Int} {Q : VK} (r : Rel G ρ F st σ H) (h1 : RV G.K ρ F x v) (p : Post RV G W ρ F st.env σ Q (gSl own st.cs x lo hi)) : rSlAny G.K.K v lo hi H Q := by
  unfold gSl at p
  split at p
  · cases h1
    rename_i z
    by_cases c : z.length ≤ 16777216
    · simp only [c, if_true] at p
      exact .inl ⟨_, rfl, line_of c, p.here r (.str _)⟩
    · simp only [c, if_false] at p
      exact p.elim
  · rename_i xs
    obtain ⟨a2, ws, rfl, s2, r2⟩ := tup_read r h1 rfl
    refine .inr (.inl ⟨a2, ws, rfl, s2, fun hw => ?_, fun hw q hq => ?_⟩)
    · have e1 : cutD xs lo hi = xs := by
        unfold cutD
        rw [r2.length, hw.1, hw.2, List.drop_zero, Nat.sub_zero, ← r2.length, List.take_length]
      rw [e1] at p
      exact p.here r h1
    · obtain ⟨x2, r3⟩ := r.fresh (o := .tup (cutV ws lo hi)) hq
      exact p _ _ _ _ x2 r3 (.tup (SqT.of upd_same) ((cut_rel r2).ext x2))
  · cases q : lstOf st.cs x with
    | none => simp only [q] at p; exact p.elim
    | some xs =>
      simp only [q] at p
      obtain ⟨a2, ws, rfl, s2, r2⟩ := lst_read r h1 q
      refine .inr (.inr ⟨a2, ws, rfl, s2, fun q hq => ?_⟩)
      cases own with
      | true =>
        exact newCell_of r (cut_rel r2) hq p
      | false =>
        obtain ⟨x2, r3⟩ := r.fresh (o := .lst (cutV ws lo hi)) hq
        exact p _ _ _ _ x2 r3 (.lst upd_same ((cut_rel r2).ext x2))
theorem de_slice {own : Bool} {lo hi : Option Expr} {fl fh : Ox} {p2 : Pos} (hK : X.K = G.K.K) (ha : PE X a (tE G W fa)) (hl : PO X lo (tOs G W fl)) (hh : PO X hi (tOs G W fh)) : PE X (.Subscript a (.Slice lo hi none p2) pos) (tE G W (eSl own fa fl fh)) :=
  (pe_slice sl_any ha hl hh).impV fun σ H Q ⟨ρ, F, st, r, p⟩ => seqX r p fun ρ1 F1 H1 x c1 v x1 r1 rv1 p1 => seqX (R := RO) (st := ⟨st.env, c1⟩) r1 p1 fun ρ2 F2 H2 lo c2 lo' x2 r2 e2 p2 => seqX (R := RO) (st := ⟨st.env, c2⟩) r2 p2 fun ρ3 F3 H3 hi c3 hi' x3 r3 e3 p3 => by
    have e2 : lo = lo' := e2
    have e3 : hi = hi' := e3
    subst e2 e3
    rw [hK]
    exact sl_of (st := ⟨st.env, c3⟩) r3 ((rv1.ext x2).ext x3) p3
/-- xs[::-1] -/
def gRev (cs : List Cell) (x : D) : Out D := match lstOf cs x with
  | some xs => .ok (.lst xs.reverse) cs
  | none => .no
def gRevLoc (cs : List Cell) (x : D) : Out D := match lstOf cs x with
  | some xs => newCell xs.reverse cs
  | none => .no
theorem de_rev {k : Nat} {p1 p2 p3 : Pos} (hK : X.K = G.K.K) (ha : PE X a (tE G W fa)) : PE X (.Subscript a (.Slice none none (some (.UnaryOp .USub (.Constant (.int 1) k p1) p2)) p3) pos) (tE G W (eUn gRev fa)) :=
  (pe_revL ha).impV fun σ H Q ⟨ρ, F, st, r, p⟩ => seqX r p fun ρ1 F1 H1 x c1 v x1 r1 rv1 p1 => by
    unfold gRev at p1
    cases q : lstOf c1 x with
    | none => simp only [q] at p1; exact p1.elim
    | some xs =>
      simp only [q] at p1
      obtain ⟨a2, ws, rfl, s2, r2⟩ := lst_read (st := ⟨st.env, c1⟩) r1 rv1 q
      rw [hK]
      refine ⟨a2, ws, rfl, s2, fun q hq => ?_⟩
      obtain ⟨x2, r3⟩ := r1.fresh (o := .lst ws.reverse) hq
      exact p1 _ _ _ _ x2 r3 (.lst upd_same (r2.reverse.ext x2))
/-! ### truth, tests -/
def truD (cs : List Cell) : D → Option Bool
  | .non => some false
  | .bl b => some b
  | .int i => some (i != 0)
  | .str y => if y.length ≤ 16777216 then some ((y.length : Int) != 0) else none
  | d => (seqOf cs d).map fun xs => !xs.isEmpty
theorem isEmpty_len {α β : Type} {xs : List α} {ys : List β} (h : xs.length = ys.length) : xs.isEmpty = ys.isEmpty := by
  cases xs <;> cases ys <;> simp_all
theorem tru_of {ρ : List Addr} {F : Hp} {st : S} {σ : St} {H : Hp} {x : D} {v : V} {k : Bool} (r : Rel G ρ F st σ H) (h : RV G.K ρ F x v) (e : truD st.cs x = some k) : TruV G.K.K v H k := by
  have main : ∀ {y : D}, RV G.K ρ F y v → (seqOf st.cs y).map (fun xs => !xs.isEmpty) = some k → TruV G.K.K v H k := fun {y} hy e => by
    cases q : seqOf st.cs y with
    | none => rw [q] at e; cases e
    | some xs =>
      rw [q] at e
      cases e
      obtain ⟨a2, ws, rfl, s2, r2⟩ := seq_read r hy q
      rcases s2 with s2 | s2
      · exact .inl ⟨ws, s2, by show (!xs.isEmpty) = _; rw [isEmpty_len r2.length]⟩
      · exact .inr (.inl ⟨ws, s2, by show (!xs.isEmpty) = _; rw [isEmpty_len r2.length]⟩)
  cases h with
  | non => exact (Option.some.inj e).symm
  | bl b => exact (Option.some.inj e).symm
  | int i => exact (Option.some.inj e).symm
  | str y =>
    unfold truD at e
    by_cases c : y.length ≤ 16777216
    · simp only [c, if_true] at e
      exact ⟨line_of c, (Option.some.inj e).symm⟩
    · simp only [c, if_false] at e
      cases e
  | tup h1 h2 => exact main (.tup h1 h2) e
  | lst h1 h2 => exact main (.lst h1 h2) e
  | frl h1 h2 => exact main (.frl h1 h2) e
  | obj h1 h2 h3 => cases e
  | cls C => cases e
  | loc h1 => exact main (.loc h1) e
abbrev Tx := S → Out Bool
def tTru (f : Ex) : Tx := fun st => (f st).bind fun x c1 => match truD c1 x with
  | some k => .ok k c1
  | none => .no
theorem truStep {ρ : List Addr} {F : Hp} {st : S} {σ : St} {H : Hp} {x : D} {v : V} {β γ : Type} {R : Kt → List Addr → Hp → β → γ → Prop} {Q : γ → Hp → Prop} {kk : Bool → Out β} (r : Rel G ρ F st σ H) (h : RV G.K ρ F x v)
    (p : Post R G W ρ F st.env σ Q (match truD st.cs x with
      | some k => kk k
      | none => .no)) : ∃ k, TruV G.K.K v H k ∧ Post R G W ρ F st.env σ Q (kk k) := by
  cases q : truD st.cs x with
  | none => simp only [q] at p; exact p.elim
  | some k =>
    simp only [q] at p
    exact ⟨k, tru_of r h q, p⟩
theorem dt_tru (hK : X.K = G.K.K) (ha : PE X a (tE G W fa)) (he : ∀ whole, isTrue a X.env whole = (do let v ← whole; standAt a.pos; holding [v] (truthy v)) := by intro _; rfl) : PT X a (tTs G W (tTru fa)) :=
  (pt_truth ha he).impV fun σ H Q ⟨ρ, F, st, r, p⟩ => seqX r p fun ρ1 F1 H1 x c1 v x1 r1 rv1 p1 => by
    obtain ⟨k, t, p2⟩ := truStep (st := ⟨st.env, c1⟩) (kk := fun k => .ok k c1) r1 rv1 p1
    rw [hK]
    exact ⟨k, t, p2.here (st := ⟨st.env, c1⟩) r1 rfl⟩
def tAnd' (f g : Tx) : Tx := fun st => (f st).bind fun k c1 => if k then g ⟨st.env, c1⟩ else .ok false c1
def tOr' (f g : Tx) : Tx := fun st => (f st).bind fun k c1 => if k then .ok true c1 else g ⟨st.env, c1⟩
def tNot' (f : Tx) : Tx := fun st => (f st).bind fun k c1 => .ok (!k) c1
theorem _root_.L2.PW.impV {X : Cx} {e : Expr} {t t' : TT} (h : PW X e t) (m : ∀ σ H Q, t' σ H Q → t σ H Q) : PW X e t' := ⟨fun wh pins s σ H Q I hw => h.run wh pins s σ H Q I (m _ _ _ hw)⟩
variable {f g : Tx} {rest : List Expr}
theorem tX_of {α β : Type} {R : Kt → List Addr → Hp → α → β → Prop} {ρ : List Addr} {F : Hp} {st : S} {σ : St} {H : Hp} {f : S → Out α} {Q : β → Hp → Prop} (r : Rel G ρ F st σ H) (p : Post R G W ρ F st.env σ Q (f st)) : tX R G W f σ H Q := ⟨ρ, F, st, r, p⟩
theorem dw_and1 (ha : PT X a (tTs G W f)) : PW X (.BoolOp .And [a] pos) (tTs G W f) := pw_and1 ha
theorem dw_or1 (ha : PT X a (tTs G W f)) : PW X (.BoolOp .Or [a] pos) (tTs G W f) := pw_or1 ha
theorem dw_and (ha : PT X a (tTs G W f)) (hb : PW X (.BoolOp .And (b :: rest) pos) (tTs G W g)) : PW X (.BoolOp .And (a :: b :: rest) pos) (tTs G W (tAnd' f g)) :=
  (pw_and ha hb).impV fun σ H Q ⟨ρ, F, st, r, p⟩ => seqX (R := RB) r p fun ρ1 F1 H1 k c1 k' x1 r1 e p1 => by
    have e : k = k' := e
    subst e
    cases k with
    | true =>
      rw [if_pos rfl] at p1 ⊢
      exact tX_of (st := ⟨st.env, c1⟩) r1 p1
    | false =>
      rw [if_neg (by decide)] at p1 ⊢
      exact p1.here (st := ⟨st.env, c1⟩) r1 rfl
theorem dw_or (ha : PT X a (tTs G W f)) (hb : PW X (.BoolOp .Or (b :: rest) pos) (tTs G W g)) : PW X (.BoolOp .Or (a :: b :: rest) pos) (tTs G W (tOr' f g)) :=
  (pw_or ha hb).impV fun σ H Q ⟨ρ, F, st, r, p⟩ => seqX (R := RB) r p fun ρ1 F1 H1 k c1 k' x1 r1 e p1 => by
    have e : k = k' := e
    subst e
    cases k with
    | true =>
      rw [if_pos rfl] at p1 ⊢
      exact p1.here (st := ⟨st.env, c1⟩) r1 rfl
    | false =>
      rw [if_neg (by decide)] at p1 ⊢
      exact tX_of (st := ⟨st.env, c1⟩) r1 p1
theorem dt_w (h : PW X a (tTs G W f)) : PT X a (tTs G W f) := h.pt
theorem dt_not (ha : PT X a (tTs G W f)) : PT X (.UnaryOp .Not a pos) (tTs G W (tNot' f)) :=
  (pt_not ha).impV fun σ H Q ⟨ρ, F, st, r, p⟩ => seqX (R := RB) r p fun ρ1 F1 H1 k c1 k' x1 r1 e p1 => by
    have e : k = k' := e
    subst e
    exact p1.here (st := ⟨st.env, c1⟩) r1 rfl
def eIf (t : Tx) (fa fb : Ex) : Ex := fun st => (t st).bind fun k c1 => if k then fa ⟨st.env, c1⟩ else fb ⟨st.env, c1⟩
theorem de_if (hc : PT X c (tTs G W f)) (ha : PE X a (tE G W fa)) (hb : PE X b (tE G W fb)) : PE X (.IfExp c a b pos) (tE G W (eIf f fa fb)) :=
  (pe_ifExp hc ha hb).impV fun σ H Q ⟨ρ, F, st, r, p⟩ => seqX (R := RB) r p fun ρ1 F1 H1 k c1 k' x1 r1 e p1 => by
    have e : k = k' := e
    subst e
    cases k with
    | true =>
      rw [if_pos rfl] at p1 ⊢
      exact tX_of (st := ⟨st.env, c1⟩) r1 p1
    | false =>
      rw [if_neg (by decide)] at p1 ⊢
      exact tX_of (st := ⟨st.env, c1⟩) r1 p1
/-- x and y, x or y, not x as values -/
def eAnd (fa fb : Ex) : Ex := fun st => (fa st).bind fun x c1 => match truD c1 x with
  | some k => if k then fb ⟨st.env, c1⟩ else .ok x c1
  | none => .no
def eOr (fa fb : Ex) : Ex := fun st => (fa st).bind fun x c1 => match truD c1 x with
  | some k => if k then .ok x c1 else fb ⟨st.env, c1⟩
  | none => .no
def eNot (fa : Ex) : Ex := fun st => (fa st).bind fun x c1 => match truD c1 x with
  | some k => .ok (.bl (!k)) c1
  | none => .no
theorem de_one {op} (h : PE X a (tE G W fa)) : PE X (.BoolOp op [a] pos) (tE G W fa) := pe_one h
theorem de_and (hK : X.K = G.K.K) (ha : PE X a (tE G W fa)) (hb : PE X (.BoolOp .And (b :: rest) pos) (tE G W fb)) : PE X (.BoolOp .And (a :: b :: rest) pos) (tE G W (eAnd fa fb)) :=
  (pe_andT ha hb).impV fun σ H Q ⟨ρ, F, st, r, p⟩ => seqX r p fun ρ1 F1 H1 x c1 v x1 r1 rv1 p1 => by
    obtain ⟨k, t, p2⟩ := truStep (st := ⟨st.env, c1⟩) (kk := fun k => if k then fb ⟨st.env, c1⟩ else .ok x c1) r1 rv1 p1
    rw [hK]
    refine ⟨k, t, ?_⟩
    cases k with
    | true => exact tX_of (st := ⟨st.env, c1⟩) r1 p2
    | false => exact p2.here (st := ⟨st.env, c1⟩) r1 rv1
theorem de_or (hK : X.K = G.K.K) (ha : PE X a (tE G W fa)) (hb : PE X (.BoolOp .Or (b :: rest) pos) (tE G W fb)) : PE X (.BoolOp .Or (a :: b :: rest) pos) (tE G W (eOr fa fb)) :=
  (pe_orT ha hb).impV fun σ H Q ⟨ρ, F, st, r, p⟩ => seqX r p fun ρ1 F1 H1 x c1 v x1 r1 rv1 p1 => by
    obtain ⟨k, t, p2⟩ := truStep (st := ⟨st.env, c1⟩) (kk := fun k => if k then .ok x c1 else fb ⟨st.env, c1⟩) r1 rv1 p1
    rw [hK]
    refine ⟨k, t, ?_⟩
    cases k with
    | true => exact p2.here (st := ⟨st.env, c1⟩) r1 rv1
    | false => exact tX_of (st := ⟨st.env, c1⟩) r1 p2
theorem de_not (hK : X.K = G.K.K) (ha : PE X a (tE G W fa)) : PE X (.UnaryOp .Not a pos) (tE G W (eNot fa)) :=
  (pe_notT ha).impV fun σ H Q ⟨ρ, F, st, r, p⟩ => seqX r p fun ρ1 F1 H1 x c1 v x1 r1 rv1 p1 => by
    obtain ⟨k, t, p2⟩ := truStep (st := ⟨st.env, c1⟩) (kk := fun k => Out.ok (D.bl (!k)) c1) r1 rv1 p1
    rw [hK]
    exact ⟨k, t, p2.here (st := ⟨st.env, c1⟩) r1 (.bl _)⟩
/-! ### an attribute of a frozen object, of an own one -/
def lookD (f : Str) : List Str → List D → Option D
  | k :: ks, d :: ds => if f = k then some d else lookD f ks ds
  | _, _ => none
theorem look_rel {K : Kt} {ρ : List Addr} {F : Hp} {f : Str} : ∀ {ks : List Str} {ds : List D} {vs : List V} {d : D}, RVs K ρ F ds vs → lookD f ks ds = some d → ∃ v, (ks.zip vs).lookup f = some v ∧ RV K ρ F d v
  | [], _, _, _, _, e => by cases e
  | _ :: _, _, _, _, .nil, e => by cases e
  | k :: ks, _, _, _, .cons h r, e => by
    unfold lookD at e
    rw [List.zip_cons_cons, List.lookup_cons]
    by_cases c : f = k
    · rw [if_pos c] at e
      cases e
      rw [show (f == k) = true from beq_iff_eq.mpr c]
      exact ⟨_, rfl, h⟩
    · rw [if_neg c] at e
      rw [show (f == k) = false from beq_eq_false_iff_ne.mpr c]
      exact look_rel r e
/-- the class at c tells nothing of f: it is a field of its instances -/
structure FldOk (K : Kt) (c : Nat) (f : Str) : Prop where
  cl : Cls K.K (K.κ c)
  no : NoAttr K.K (K.κ c) f
def gFldC (cn : Nat) (f : Str) : F1 := fun cs x => match x with
  | .obj C ks ds => if C = cn then (match lookD f ks ds with
    | some d => .ok d cs
    | none => .no) else .no
  | .loc n => (match cs[n]? with
    | some (.ins C ks ds) => if C = cn then (match lookD f ks ds with
      | some d => .ok d cs
      | none => .no) else .no
    | _ => .no)
  | _ => .no
theorem de_fld {cn : Nat} {f : Str} (hK : X.K = G.K.K) (hf : FldOk G.K cn f) (ha : PE X a (tE G W fa)) (hb : attributeBase a f X.env (eval a X.env) = eval a X.env := by rfl) : PE X (.Attribute a f pos) (tE G W (eUn (gFldC cn f) fa)) :=
  (pe_fld ha hb).impV fun σ H Q ⟨ρ, F, st, r, p⟩ => seqX r p fun ρ1 F1 H1 x c1 v x1 r1 rv1 p1 => by
    rw [hK]
    have fin : ∀ {C : Nat} {a2 dx : Addr} {ks : List Str} {ds : List D} {vs : List V}, v = .ref a2 → H1 a2 = some (.ins (G.K.κ C) dx (ks.zip vs)) → RVs G.K ρ1 F1 ds vs → Post RV G W ρ1 F1 st.env σ Q (if C = cn then (match lookD f ks ds with
        | some d => .ok d c1
        | none => .no) else .no) →
        ∃ a C dx fs v_1, v = .ref a ∧ H1 a = some (.ins C dx fs) ∧ Cls G.K.K C ∧ NoAttr G.K.K C f ∧ fs.lookup f = some v_1 ∧ Q v_1 H1 := fun {C a2 dx ks ds vs} e1 e2 rr pp => by
      by_cases c : C = cn
      · subst c
        simp only [if_true] at pp
        cases q : lookD f ks ds with
        | none => simp only [q] at pp; exact pp.elim
        | some d =>
          simp only [q] at pp
          obtain ⟨u, e3, e4⟩ := look_rel rr q
          exact ⟨a2, _, dx, _, u, e1, e2, hf.cl, hf.no, e3, pp.here (st := ⟨st.env, c1⟩) r1 e4⟩
      · simp only [c, if_false] at pp
        exact pp.elim
    cases rv1 with
    | obj h1 h2 h3 => exact fin rfl (r1.fz _ _ h1) h3 p1
    | loc h1 =>
      rename_i n a2
      unfold gFldC at p1
      simp only at p1
      cases q : c1[n]? with
      | none => simp only [q] at p1; exact p1.elim
      | some c0 =>
        cases c0 with
        | ins C ks ds =>
          simp only [q] at p1
          obtain ⟨dx, vs, h2, h3, h4⟩ := r1.cell n _ _ q h1
          exact fin rfl h2 h4 p1
        | lst _ => simp only [q] at p1; exact p1.elim
        | dk _ _ => simp only [q] at p1; exact p1.elim
    | _ => exact p1.elim
end
end VL

namespace VL
open PySem L2
/-! ### statements -/
inductive SOut where
  | nx (st : S) | rt (d : D) (st : S) | bk (st : S) | ct (st : S) | ex (e : Exn) (st : S) | no
def SPost (G : Gx) (W : WX) (ρ : List Addr) (F : Hp) (E : Ends) : SOut → Prop
  | .nx st => ∀ ρ' F' σ' H', Ext ρ F ρ' F' → Rel G ρ' F' st σ' H' → E.nx σ' H'
  | .rt d st => ∀ ρ' F' σ' H' v, Ext ρ F ρ' F' → Rel G ρ' F' st σ' H' → RV G.K ρ' F' d v → E.rt v H'
  | .bk st => ∀ ρ' F' σ' H', Ext ρ F ρ' F' → Rel G ρ' F' st σ' H' → E.bk σ' H'
  | .ct st => ∀ ρ' F' σ' H', Ext ρ F ρ' F' → Rel G ρ' F' st σ' H' → E.ct σ' H'
  | .ex e st => ∀ ρ' F' σ' H' cls dx, Ext ρ F ρ' F' → Rel G ρ' F' st σ' H' → XAt G.K ρ' F' e cls dx → W cls dx σ' H'
  | .no => False
abbrev Sx := S → SOut
def tS (G : Gx) (W : WX) (f : Sx) : TS := fun E σ H => ∃ ρ F st, Rel G ρ F st σ H ∧ SPost G W ρ F E (f st)
section
variable {X : Cx} {G : Gx} {W : WX} {E : Ends} {ρ ρ' : List Addr} {F F' : Hp} {st : S} {σ : St} {H : Hp}
theorem SPost.ext (x : Ext ρ F ρ' F') : ∀ {o : SOut}, SPost G W ρ F E o → SPost G W ρ' F' E o
  | .nx _, h => fun ρ2 F2 s2 H2 y r => h ρ2 F2 s2 H2 (x.trans y) r
  | .rt _ _, h => fun ρ2 F2 s2 H2 v y r q => h ρ2 F2 s2 H2 v (x.trans y) r q
  | .bk _, h => fun ρ2 F2 s2 H2 y r => h ρ2 F2 s2 H2 (x.trans y) r
  | .ct _, h => fun ρ2 F2 s2 H2 y r => h ρ2 F2 s2 H2 (x.trans y) r
  | .ex _ _, h => fun ρ2 F2 s2 H2 c d y r q => h ρ2 F2 s2 H2 c d (x.trans y) r q
  | .no, h => h
def thenS {α : Type} (o : Out α) (env : List (Option D)) (k : α → S → SOut) : SOut := match o with
  | .ok a cs => k a ⟨env, cs⟩
  | .ex e cs => .ex e ⟨env, cs⟩
  | .no => .no
theorem seqS {α β : Type} {R : Kt → List Addr → Hp → α → β → Prop} {f : S → Out α} {k : α → S → SOut} {Q' : β → Hp → Prop} (r : Rel G ρ F st σ H) (p : SPost G W ρ F E (thenS (f st) st.env k))
    (h : ∀ ρ' F' H' a cs v, Ext ρ F ρ' F' → Rel G ρ' F' ⟨st.env, cs⟩ σ H' → R G.K ρ' F' a v → SPost G W ρ' F' E (k a ⟨st.env, cs⟩) → Q' v H') : tX R G W f σ H Q' := by
  refine ⟨ρ, F, st, r, ?_⟩
  cases e : f st with
  | ok a cs =>
    rw [e] at p
    exact fun ρ' F' H' v x r' rv => h ρ' F' H' a cs v x r' rv (SPost.ext x p)
  | ex e' cs =>
    rw [e] at p
    exact fun ρ' F' H' c d x r' q => p ρ' F' σ H' c d x r' q
  | no =>
    rw [e] at p
    exact p
theorem tS_of {f : Sx} (r : Rel G ρ F st σ H) (p : SPost G W ρ F E (f st)) : tS G W f E σ H := ⟨ρ, F, st, r, p⟩
variable {a b c e : Expr} {s : Stmt} {ss : List Stmt} {f g : Sx} {fa fb : Ex} {t : Tx} {pos : Pos}
def sSeq (f g : Sx) : Sx := fun st => match f st with
  | .nx st' => g st'
  | o => o
def sNil : Sx := fun st => .nx st
theorem ds_nil : PSs X [] (tS G W sNil) := pss_nil.impV fun D σ H ⟨ρ, F, st, r, p⟩ => p ρ F σ H Ext.refl r
theorem ds_one (h : PS X s (tS G W f)) : PSs X [s] (tS G W f) := pss_one h
theorem ds_cons (h : PS X s (tS G W f)) (h2 : PSs X ss (tS G W g)) : PSs X (s :: ss) (tS G W (sSeq f g)) := (pss_cons h h2).impV fun D σ H ⟨ρ, F, st, r, p⟩ => by
  refine ⟨ρ, F, st, r, ?_⟩
  unfold sSeq at p
  cases q : f st with
  | nx st' =>
    rw [q] at p
    exact fun ρ' F' σ' H' x r' => tS_of r' (SPost.ext x p)
  | rt d st' => rw [q] at p; exact p
  | bk st' => rw [q] at p; exact p
  | ct st' => rw [q] at p; exact p
  | ex e' st' => rw [q] at p; exact p
  | no => rw [q] at p; exact p
theorem ds_pass : PS X (.Pass pos) (tS G W sNil) := ps_pass.impV fun D σ H ⟨ρ, F, st, r, p⟩ => p ρ F σ H Ext.refl r
def sBrk : Sx := fun st => .bk st
def sCnt : Sx := fun st => .ct st
theorem ds_break : PS X (.Break pos) (tS G W sBrk) := ps_break.impV fun D σ H ⟨ρ, F, st, r, p⟩ => p ρ F σ H Ext.refl r
theorem ds_cont : PS X (.Continue pos) (tS G W sCnt) := ps_continue.impV fun D σ H ⟨ρ, F, st, r, p⟩ => p ρ F σ H Ext.refl r
/-- a way that is never gone -/
def sNever : Sx := fun _ => .no
theorem ds_never : PS X s (tS G W sNever) := ps_never.impV fun D σ H ⟨ρ, F, st, r, p⟩ => p
theorem dss_never : PSs X ss (tS G W sNever) := pss_never.impV fun D σ H ⟨ρ, F, st, r, p⟩ => p
def sExpr (f : Ex) : Sx := fun st => thenS (f st) st.env fun _ st' => .nx st'
theorem ds_expr (h : PE X e (tE G W fa)) (hs : swapsWith e none pos.line X.env = pure false := by rfl) : PS X (.Expr e pos) (tS G W (sExpr fa)) :=
  (ps_expr h hs).impV fun D σ H ⟨ρ, F, st, r, p⟩ => seqS (f := fa) r p fun ρ1 F1 H1 x c1 v x1 r1 rv1 p1 => p1 ρ1 F1 σ H1 Ext.refl r1
def sRet (f : Ex) : Sx := fun st => thenS (f st) st.env fun d st' => .rt d st'
theorem ds_ret (h : PE X e (tE G W fa)) : PS X (.Return (some e) pos) (tS G W (sRet fa)) :=
  (ps_ret h).impV fun D σ H ⟨ρ, F, st, r, p⟩ => seqS (f := fa) r p fun ρ1 F1 H1 x c1 v x1 r1 rv1 p1 => p1 ρ1 F1 σ H1 v Ext.refl r1 rv1
def sRetN : Sx := fun st => .rt .non st
theorem ds_retN : PS X (.Return none pos) (tS G W sRetN) := ps_retN.impV fun D σ H ⟨ρ, F, st, r, p⟩ => p ρ F σ H .non Ext.refl r .non
def sIf (t : Tx) (f g : Sx) : Sx := fun st => thenS (t st) st.env fun k st' => if k then f st' else g st'
theorem ds_if {A B : List Stmt} (hc : PT X c (tTs G W t)) (ha : PSs X A (tS G W f)) (hb : PSs X B (tS G W g)) : PS X (.If c A B pos) (tS G W (sIf t f g)) :=
  (ps_if hc ha hb).impV fun D σ H ⟨ρ, F, st, r, p⟩ => seqS (R := RB) (f := t) r p fun ρ1 F1 H1 k c1 k' x1 r1 e p1 => by
    have e : k = k' := e
    subst e
    cases k with
    | true => exact tS_of r1 p1
    | false => exact tS_of r1 p1
/-! ### targets -/
abbrev Gt := D → S → Option S
abbrev Gts := List D → S → Option S
def gNm (i : Nat) : Gt := fun d st => some ⟨st.env.set i (some d), st.cs⟩
def gsNil : Gts := fun ds st => match ds with
  | [] => some st
  | _ => none
def gsCons (g : Gt) (gs : Gts) : Gts := fun ds st => match ds with
  | d :: r => (g d st).bind (gs r)
  | [] => none
def gTp (n : Nat) (gs : Gts) : Gt := fun d st => match d with
  | .tup ds => if ds.length = n then gs ds st else none
  | _ => none
/-- σ' is σ but at the slots sl -/
def But (sl : List Nat) (σ σ' : St) : Prop := σ'.length = σ.length ∧ ∀ j : Nat, j ∉ sl → σ'[j]? = σ[j]?
theorem But.refl {sl : List Nat} {σ : St} : But sl σ σ := ⟨rfl, fun _ _ => rfl⟩
theorem But.set {i : Nat} {σ : St} {v : Option V} : But [i] σ (σ.set i v) := ⟨List.length_set, fun j hj => List.getElem?_set_ne (fun z => hj (by rw [z]; exact List.mem_singleton.mpr rfl))⟩
theorem But.trans {s1 s2 : List Nat} {σ σ1 σ2 : St} (a : But s1 σ σ1) (b : But s2 σ1 σ2) : But (s1 ++ s2) σ σ2 :=
  ⟨b.1.trans a.1, fun j hj => (b.2 j fun z => hj (List.mem_append_right _ z)).trans (a.2 j fun z => hj (List.mem_append_left _ z))⟩
def tG (G : Gx) (sl : List Nat) (g : Gt) : TG := fun v σ H Q => ∃ ρ F st d st', Rel G ρ F st σ H ∧ RV G.K ρ F d v ∧ g d st = some st' ∧ ∀ σ', Rel G ρ F st' σ' H → But sl σ σ' → Q σ' H
def tGs (G : Gx) (sl : List Nat) (g : Gts) : TGs := fun vs σ H Q => ∃ ρ F st ds st', Rel G ρ F st σ H ∧ RVs G.K ρ F ds vs ∧ g ds st = some st' ∧ ∀ σ', Rel G ρ F st' σ' H → But sl σ σ' → Q σ' H
theorem _root_.L2.PG.impV {X : Cx} {e : Expr} {t t' : TG} (h : PG X e t) (m : ∀ v σ H Q, t' v σ H Q → t v σ H Q) : PG X e t' := ⟨fun pins s σ H v u Q I r hw => h.run pins s σ H v u Q I r (m _ _ _ _ hw)⟩
theorem _root_.L2.PGs.impV {X : Cx} {e : List Expr} {t t' : TGs} (h : PGs X e t) (m : ∀ v σ H Q, t' v σ H Q → t v σ H Q) : PGs X e t' := ⟨fun pins s σ H v u Q I r hw => h.run pins s σ H v u Q I r (m _ _ _ _ hw)⟩
variable {es : List Expr} {i : Nat} {x : Str}
theorem dg_name (hN : X.N.Nodup) (hi : X.N[i]? = some x := by rfl) (hx : Loc X.env.scope x := by first | exact Or.inl rfl | exact Or.inr rfl) (hf : X.fn x = true ∨ X.env.scope.names.lookup x = some .local := by first | exact .inl rfl | exact .inr rfl) : PG X (.Name x pos) (tG G [i] (gNm i)) :=
  (pg_name (i := i) hN hi hx hf).impV fun v σ H Q ⟨ρ, F, st, d, st', r, rv, e, q⟩ => by
    cases e
    exact q _ (r.slot rv) But.set
theorem dgs_nil : PGs X [] (tGs G [] gsNil) := pgs_nil.impV fun v σ H Q ⟨ρ, F, st, ds, st', r, rv, e, q⟩ => by
  cases rv with
  | nil => cases e; exact ⟨rfl, q _ r But.refl⟩
  | cons => cases e
theorem dgs_cons {s1 s2 : List Nat} {g : Gt} {gs : Gts} (h : PG X e (tG G s1 g)) (h2 : PGs X es (tGs G s2 gs)) (hs : (assignEach (e :: es) X.env).map (·.2) = assign e X.env :: (assignEach es X.env).map (·.2) := by rfl) : PGs X (e :: es) (tGs G (s1 ++ s2) (gsCons g gs)) :=
  (pgs_cons h h2 hs).impV fun v σ H Q ⟨ρ, F, st, ds, st', r, rv, e, q⟩ => by
    cases rv with
    | nil => cases e
    | @cons d ds v vs h1 h3 =>
      refine ⟨v, vs, rfl, ?_⟩
      have e : (g d st).bind (gs ds) = some st' := e
      cases q1 : g d st with
      | none => rw [q1] at e; cases e
      | some st1 =>
        rw [q1] at e
        exact ⟨ρ, F, st, d, st1, r, h1, q1, fun σ1 r1 b1 => ⟨ρ, F, st1, ds, st', r1, h3, e, fun σ2 r2 b2 => q σ2 r2 (b1.trans b2)⟩⟩
theorem dg_tup {n k : Nat} {sl : List Nat} {gs : Gts} (hK : X.K = G.K.K) (hc : X.calm = true) (h : PGs X es (tGs G sl gs)) (hn : (assignEach es X.env).length = n := by rfl) (hst : (assignEach es X.env).findIdx? (·.1) = none := by rfl) : PG X (.Tuple es k pos) (tG G sl (gTp n gs)) :=
  (pg_tup hc h hn hst).impV fun v σ H Q ⟨ρ, F, st, d, st', r, rv, e, q⟩ => by
    unfold gTp at e
    cases rv with
    | @tup a vs ds h1 h2 =>
      simp only at e
      by_cases c : ds.length = n
      · rw [if_pos c] at e
        rw [hK]
        exact ⟨a, vs, rfl, sqT_same r.fz h1, by rw [← h2.length]; exact c, ρ, F, st, ds, st', r, h2, e, q⟩
      · rw [if_neg c] at e
        cases e
    | _ => cases e
def asg (g : Gt) (d : D) (st : S) : SOut := match g d st with
  | some st' => .nx st'
  | none => .no
def sAsg (f : Ex) (g : Gt) : Sx := fun st => thenS (f st) st.env (asg g)
theorem asg_of {sl : List Nat} {g : Gt} {d : D} {v : V} (r : Rel G ρ F st σ H) (rv : RV G.K ρ F d v) (p : SPost G W ρ F E (asg g d st)) : tG G sl g v σ H E.nx := by
  unfold asg at p
  cases q : g d st with
  | none => rw [q] at p; exact p.elim
  | some st' =>
    rw [q] at p
    exact ⟨ρ, F, st, d, st', r, rv, q, fun σ' r' _ => p ρ F σ' H Ext.refl r'⟩
theorem ds_set {pos' : Pos} (hN : X.N.Nodup) (h : PE X e (tE G W fa)) (hi : X.N[i]? = some x := by rfl) (hx : Loc X.env.scope x := by first | exact Or.inl rfl | exact Or.inr rfl) (hs : swapsWith e (some (.Name x pos')) pos.line X.env = pure false := by rfl) (hf : X.fn x = true ∨ X.env.scope.names.lookup x = some .local := by first | exact .inl rfl | exact .inr rfl) : PS X (.Assign [.Name x pos'] e pos) (tS G W (sAsg fa (gNm i))) :=
  (ps_set (i := i) hN hi hx h hs hf).impV fun D σ H ⟨ρ, F, st, r, p⟩ => seqS (f := fa) r p fun ρ1 F1 H1 x c1 v x1 r1 rv1 p1 => p1 ρ1 F1 _ H1 Ext.refl (r1.slot rv1)
theorem ds_asg {tg : Expr} {sl : List Nat} {g : Gt} (h : PE X e (tE G W fa)) (hg : PG X tg (tG G sl g)) (hs : swapsWithSole [tg] e pos.line X.env = pure false := by rfl) (hw : swappedStores [tg] e X.env = pure none := by rfl) (h1 : (assignEach [tg] X.env).map (·.2) = [assign tg X.env] := by rfl) : PS X (.Assign [tg] e pos) (tS G W (sAsg fa g)) :=
  (ps_asg h hg hs hw h1).impV fun D σ H ⟨ρ, F, st, r, p⟩ => seqS (f := fa) r p fun ρ1 F1 H1 x c1 v x1 r1 rv1 p1 => asg_of r1 rv1 p1
/-- a, b = x, y -/
def sPar (is : List Nat) (g : Ax) : Sx := fun st => thenS (g st) st.env fun ds st' => match is, ds with
  | [i, j], [d, e] => .nx ⟨(st'.env.set i (some d)).set j (some e), st'.cs⟩
  | [i, j, k], [d, e, f] => .nx ⟨((st'.env.set i (some d)).set j (some e)).set k (some f), st'.cs⟩
  | _, _ => .no
theorem ds_par {j : Nat} {y : Str} {px py pt : Pos} {kt k2 pt2} {ga : Ax} (hc : X.calm = true) (hN : X.N.Nodup) (ha : PA X [a, b] (tAs G W ga)) (hij : i ≠ j) (hi : X.N[i]? = some x := by rfl) (hj : X.N[j]? = some y := by rfl)
    (hx : X.env.scope.names.lookup x = some .local := by rfl) (hy : X.env.scope.names.lookup y = some .local := by rfl)
    (hw : swappedStores [.Tuple [.Name x px, .Name y py] kt pt] (.Tuple [a, b] k2 pt2) X.env = pure (some [x, y]) := by rfl)
    (hs : swapsWithSole [.Tuple [.Name x px, .Name y py] kt pt] (.Tuple [a, b] k2 pt2) pos.line X.env = pure false := by rfl) :
    PS X (.Assign [.Tuple [.Name x px, .Name y py] kt pt] (.Tuple [a, b] k2 pt2) pos) (tS G W (sPar [i, j] ga)) :=
  (ps_par hc hN hi hj hij hx hy ha hw hs).impV fun D σ H ⟨ρ, F, st, r, p⟩ => seqS (R := RVs) (f := ga) r p fun ρ1 F1 H1 ds c1 vs x1 r1 rv1 p1 => by
    cases rv1 with
    | nil => exact p1.elim
    | cons h1 rv1 =>
      cases rv1 with
      | nil => exact p1.elim
      | cons h2 rv1 =>
        cases rv1 with
        | nil => exact ⟨_, _, rfl, p1 ρ1 F1 _ H1 Ext.refl ((r1.slot h1).slot h2)⟩
        | cons h3 rv1 => exact p1.elim
theorem ds_par3 {j l : Nat} {y z : Str} {px py pz pt : Pos} {kt k2 pt2} {ga : Ax} (hc : X.calm = true) (hN : X.N.Nodup) (ha : PA X [a, b, c] (tAs G W ga)) (hij : i ≠ j) (hil : i ≠ l) (hjl : j ≠ l) (hi : X.N[i]? = some x := by rfl) (hj : X.N[j]? = some y := by rfl) (hl : X.N[l]? = some z := by rfl)
    (hx : X.env.scope.names.lookup x = some .local := by rfl) (hy : X.env.scope.names.lookup y = some .local := by rfl) (hz : X.env.scope.names.lookup z = some .local := by rfl)
    (hw : swappedStores [.Tuple [.Name x px, .Name y py, .Name z pz] kt pt] (.Tuple [a, b, c] k2 pt2) X.env = pure (some [x, y, z]) := by rfl)
    (hs : swapsWithSole [.Tuple [.Name x px, .Name y py, .Name z pz] kt pt] (.Tuple [a, b, c] k2 pt2) pos.line X.env = pure false := by rfl) :
    PS X (.Assign [.Tuple [.Name x px, .Name y py, .Name z pz] kt pt] (.Tuple [a, b, c] k2 pt2) pos) (tS G W (sPar [i, j, l] ga)) :=
  (ps_par3 hc hN hi hj hl hij hil hjl hx hy hz ha hw hs).impV fun D σ H ⟨ρ, F, st, r, p⟩ => seqS (R := RVs) (f := ga) r p fun ρ1 F1 H1 ds c1 vs x1 r1 rv1 p1 => by
    cases rv1 with
    | nil => exact p1.elim
    | cons h1 rv1 =>
      cases rv1 with
      | nil => exact p1.elim
      | cons h2 rv1 =>
        cases rv1 with
        | nil => exact p1.elim
        | cons h3 rv1 =>
          cases rv1 with
          | nil => exact ⟨_, _, _, rfl, p1 ρ1 F1 _ H1 Ext.refl (((r1.slot h1).slot h2).slot h3)⟩
          | cons h4 rv1 => exact p1.elim
/-- o[i] = v, o an own list -/
def setIx (o k v : D) (st : S) : SOut := match o, k with
  | .loc n, .int k => match st.cs[n]? with
    | some (.lst ds) => (match ixN ds.length k with
      | some j => .nx ⟨st.env, st.cs.set n (.lst (ds.set j v))⟩
      | none => .no)
    | _ => .no
  | _, _ => .no
theorem setIx_of {o k d : D} {ov kv v : V} (r : Rel G ρ F st σ H) (h1 : RV G.K ρ F o ov) (h2 : RV G.K ρ F k kv) (h3 : RV G.K ρ F d v) (p : SPost G W ρ F E (setIx o k d st)) : rSetL ov kv v H fun H3 => E.nx σ H3 := by
  unfold setIx at p
  cases h1 with
  | @loc n a0 h1 =>
    cases h2 with
    | int k =>
      simp only at p
      cases q : st.cs[n]? with
      | none => simp only [q] at p; exact p.elim
      | some c0 =>
        cases c0 with
        | lst ds =>
          simp only [q] at p
          cases q2 : ixN ds.length k with
          | none => simp only [q2] at p; exact p.elim
          | some j =>
            simp only [q2] at p
            obtain ⟨vs, h4, h5⟩ := r.cell n _ _ q h1
            refine ⟨a0, vs, k, j, rfl, rfl, h4, by rw [← h5.length]; exact q2, ?_⟩
            exact p ρ F σ _ Ext.refl (r.cellSet (c := .lst (ds.set j d)) h1 ⟨_, upd_same, h5.set h3 j⟩)
        | dk _ _ => simp only [q] at p; exact p.elim
        | ins _ _ _ => simp only [q] at p; exact p.elim
    | _ => exact p.elim
  | _ => exact p.elim
def sSetIx (fv fo fi : Ex) : Sx := fun st => thenS (fv st) st.env fun v st1 => thenS (fo st1) st1.env fun o st2 => thenS (fi st2) st2.env fun k st3 => setIx o k v st3
theorem ds_setIx {fv fo fi : Ex} {o k v : Expr} {spos : Pos} (hv : PE X v (tE G W fv)) (ho : PE X o (tE G W fo)) (hi : PE X k (tE G W fi))
    (ha : ∀ u, assign (.Subscript o k spos) X.env u = (do
      let ov ← holding [u] (eval o X.env)
      let iv ← holding [u, ov] (eval k X.env)
      standAt spos
      holding [u, ov, iv] (setItem ov iv u)
      release [u, ov, iv] []) := by intro _; rfl)
    (hs : swapsWithSole [.Subscript o k spos] v pos.line X.env = pure false := by rfl) (hw : swappedStores [.Subscript o k spos] v X.env = pure none := by rfl) (h1 : (assignEach [.Subscript o k spos] X.env).map (·.2) = [assign (.Subscript o k spos) X.env] := by rfl) :
    PS X (.Assign [.Subscript o k spos] v pos) (tS G W (sSetIx fv fo fi)) :=
  (ps_asg hv (pg_sub ho hi set_list ha) hs hw h1).impV fun D σ H ⟨ρ, F, st, r, p⟩ => seqS (f := fv) r p fun ρ1 F1 H1 x c1 v x1 r1 rv1 p1 => seqS (st := ⟨st.env, c1⟩) (f := fo) r1 p1 fun ρ2 F2 H2 o c2 ov x2 r2 rv2 p2 => seqS (st := ⟨st.env, c2⟩) (f := fi) r2 p2 fun ρ3 F3 H3 k c3 kv x3 r3 rv3 p3 => by
    exact setIx_of (st := ⟨st.env, c3⟩) r3 (rv2.ext x3) rv3 ((rv1.ext x2).ext x3) p3
/-- x += e, x -= e of ints -/
def sAug (i : Nat) (g : Int → Int → Int) (f : Ex) : Sx := fun st => match st.env[i]? with
  | some (some (.int k)) => thenS (f st) st.env fun d st' => match d with
    | .int j => .nx ⟨st'.env.set i (some (.int (g k j))), st'.cs⟩
    | _ => .no
  | _ => .no
theorem ds_aug {op : Operator} {g : Int → Int → Int} {pos' : Pos} (hN : X.N.Nodup) (h : PE X e (tE G W fa)) (ho : PIp X op (ipI g)) (hi : X.N[i]? = some x := by rfl) (hx : Loc X.env.scope x := by first | exact Or.inl rfl | exact Or.inr rfl) (hf : X.fn x = true ∨ X.env.scope.names.lookup x = some .local := by first | exact .inl rfl | exact .inr rfl) :
    PS X (.AugAssign (.Name x pos') op e pos) (tS G W (sAug i g fa)) :=
  (ps_aug (i := i) hN hi hx h ho hf).impV fun D σ H ⟨ρ, F, st, r, p⟩ => by
    unfold sAug at p
    split at p
    · rename_i k q
      obtain ⟨v, e1, e2⟩ := r.env i _ q
      cases e2
      refine ⟨_, e1, seqS (f := fa) r p fun ρ1 F1 H1 d c1 w x1 r1 rv1 p1 => ?_⟩
      cases rv1 with
      | int j => exact ⟨_, _, rfl, rfl, p1 ρ1 F1 _ H1 Ext.refl (r1.slot (.int _))⟩
      | _ => exact p1.elim
    · exact p.elim
end
end VL

namespace VL
open PySem L2
/-! ### what is walked -/
/-- J gives ds, one after the other, as long as keep holds of the cells -/
def Wk (G : Gx) (ρ0 : List Addr) (F0 : Hp) (J : It) (ds : List D) (keep : List Cell → Bool) : Prop :=
  ∀ (ρ : List Addr) (F : Hp) (st : S) (σ : St) (H : Hp) (i : Nat), Ext ρ0 F0 ρ F → Rel G ρ F st σ H → keep st.cs = true →
    (∀ d, ds[i]? = some d → J.go i H ∧ ∀ x H', J.yld i H x H' → ∃ ρ' F', Ext ρ F ρ' F' ∧ ρ' = ρ ∧ (∀ b o, H b = some o → H' b = some o) ∧ Rel G ρ' F' st σ H' ∧ RV G.K ρ' F' d x) ∧ (i = ds.length → J.stop i H)
abbrev Walk := List D × (List Cell → Bool)
abbrev Ix := S → Out Walk
def tI (G : Gx) (W : WX) (src : Ix) : TI := fun σ H R => ∃ ρ F st, Rel G ρ F st σ H ∧ (match src st with
  | .ok w cs => ∀ ρ' F' H' J, Ext ρ F ρ' F' → Rel G ρ' F' ⟨st.env, cs⟩ σ H' → Wk G ρ' F' J w.1 w.2 → R J H'
  | .ex e cs => ∀ ρ' F' H' cls dx, Ext ρ F ρ' F' → Rel G ρ' F' ⟨st.env, cs⟩ σ H' → XAt G.K ρ' F' e cls dx → W cls dx σ H'
  | .no => False)
def keepAll : List Cell → Bool := fun _ => true
/-- the cell n holds ds -/
def keepAt (cs0 : List Cell) : D → List Cell → Bool
  | .loc n => fun cs => match cs0[n]?, cs[n]? with
    | some (.lst _), some (.lst _) => true
    | _, _ => false
  | _ => fun _ => true
section
variable {X : Cx} {G : Gx} {W : WX} {ρ : List Addr} {F : Hp} {st : S} {σ : St} {H : Hp} {tg e : Expr} {es : List Expr} {fa : Ex} {pos : Pos}
theorem _root_.L2.PI.impV {X : Cx} {tg e : Expr} {t t' : TI} (h : PI X tg e t) (m : ∀ σ H R, t' σ H R → t σ H R) : PI X tg e t' := ⟨fun pins s σ H R I hw => h.run pins s σ H R I (m _ _ _ hw)⟩
/-- lists' items are locked by a test of the cell: it holds these very items -/
def iLst (f : Ex) : Ix := fun st => (f st).bind fun x c1 => match x with
  | .tup ds => .ok (ds, keepAll) c1
  | .lst ds => .ok (ds, keepAll) c1
  | .frl ds => .ok (ds, keepAll) c1
  | _ => .no
theorem tI_of {α β : Type} {R : Kt → List Addr → Hp → α → β → Prop} {f : S → Out α} {k : α → List Cell → Out Walk} {Q : It → Hp → Prop} {Q' : β → Hp → Prop} (r : Rel G ρ F st σ H)
    (p : match (f st).bind k with
      | .ok w cs => ∀ ρ' F' H' J, Ext ρ F ρ' F' → Rel G ρ' F' ⟨st.env, cs⟩ σ H' → Wk G ρ' F' J w.1 w.2 → Q J H'
      | .ex e cs => ∀ ρ' F' H' cls dx, Ext ρ F ρ' F' → Rel G ρ' F' ⟨st.env, cs⟩ σ H' → XAt G.K ρ' F' e cls dx → W cls dx σ H'
      | .no => False)
    (h : ∀ ρ' F' H' a cs v, Ext ρ F ρ' F' → Rel G ρ' F' ⟨st.env, cs⟩ σ H' → R G.K ρ' F' a v → (∀ w, k a cs = .ok w cs → ∀ J, Wk G ρ' F' J w.1 w.2 → Q J H') → (k a cs ≠ .no) → Q' v H') (hk : ∀ a cs, (∃ w, k a cs = .ok w cs) ∨ k a cs = .no) : tX R G W f σ H Q' := by
  refine ⟨ρ, F, st, r, ?_⟩
  cases e : f st with
  | ok a cs =>
    rw [e] at p
    have p : match k a cs with
      | .ok w cs => ∀ ρ' F' H' J, Ext ρ F ρ' F' → Rel G ρ' F' ⟨st.env, cs⟩ σ H' → Wk G ρ' F' J w.1 w.2 → Q J H'
      | .ex e cs => ∀ ρ' F' H' cls dx, Ext ρ F ρ' F' → Rel G ρ' F' ⟨st.env, cs⟩ σ H' → XAt G.K ρ' F' e cls dx → W cls dx σ H'
      | .no => False := p
    rcases hk a cs with ⟨w, hw⟩ | hw
    · rw [hw] at p
      refine fun ρ' F' H' v x r' rv => h ρ' F' H' a cs v x r' rv (fun w' hw' J wk => ?_) (fun z => by rw [hw] at z; cases z)
      rw [hw] at hw'
      cases hw'
      exact p ρ' F' H' J x r' wk
    · rw [hw] at p
      exact p.elim
  | ex e' cs => rw [e] at p; exact p
  | no => rw [e] at p; exact p
theorem wk_list {a : Addr} {ds : List D} {vs : List V} (hs : SqL G.K.K F a vs) (rv : RVs G.K ρ F ds vs) : Wk G ρ F (Itl G.K.K a) ds keepAll := fun ρ1 F1 st1 σ1 H1 i x r _ => by
  have hs1 : SqL G.K.K H1 a vs := r.fz.seq (x.fz.seq hs)
  refine ⟨fun d e => ?_, fun e => ⟨vs, hs1, ?_⟩⟩
  · obtain ⟨v, e1, e2⟩ := (rv.ext x).get e
    exact ⟨⟨vs, v, hs1, e1⟩, fun y H' ⟨e3, e4⟩ => by
      subst e3
      have := e4 vs hs1
      rw [e1] at this
      cases this
      exact ⟨ρ1, F1, Ext.refl, rfl, fun _ _ h => h, r, e2⟩⟩
  · rw [← rv.length, e]
    exact Nat.le_refl _
theorem wk_tup {a : Addr} {ds : List D} {vs : List V} (hs : SqT G.K.K F a vs) (rv : RVs G.K ρ F ds vs) : Wk G ρ F (Itt G.K.K a) ds keepAll := fun ρ1 F1 st1 σ1 H1 i x r _ => by
  have hs1 : SqT G.K.K H1 a vs := sqT_same r.fz (sqT_same x.fz hs)
  refine ⟨fun d e => ?_, fun e => ⟨vs, hs1, ?_⟩⟩
  · obtain ⟨v, e1, e2⟩ := (rv.ext x).get e
    exact ⟨⟨vs, v, hs1, e1⟩, fun y H' ⟨e3, e4⟩ => by
      subst e3
      have := e4 vs hs1
      rw [e1] at this
      cases this
      exact ⟨ρ1, F1, Ext.refl, rfl, fun _ _ h => h, r, e2⟩⟩
  · rw [← rv.length, e]
    exact Nat.le_refl _
/-- for over a frozen list -/
def iL (f : Ex) : Ix := fun st => (f st).bind fun x c1 => match x with
  | .lst ds => .ok (ds, keepAll) c1
  | .frl ds => .ok (ds, keepAll) c1
  | _ => .no
theorem di_list (hK : X.K = G.K.K) (h : PE X e (tE G W fa)) : PI X tg e (tI G W (iL fa)) := (pi_list h).impV fun σ H R ⟨ρ, F, st, r, p⟩ => by
  refine tI_of (R := RV) r p (fun ρ1 F1 H1 x c1 v x1 r1 rv1 q hn => ?_) (fun x c1 => ?_)
  · rw [hK]
    cases rv1 with
    | lst h1 h2 => exact ⟨_, rfl, ⟨_, SqL.of (r1.fz _ _ h1)⟩, q _ rfl _ (wk_list (SqL.of h1) h2)⟩
    | frl h1 h2 => exact ⟨_, rfl, ⟨_, r1.fz.seq h1⟩, q _ rfl _ (wk_list h1 h2)⟩
    | _ => exact absurd rfl hn
  · cases x <;> first | exact .inl ⟨_, rfl⟩ | exact .inr rfl
/-- for over a tuple -/
def iT (f : Ex) : Ix := fun st => (f st).bind fun x c1 => match x with
  | .tup ds => .ok (ds, keepAll) c1
  | _ => .no
theorem di_tup (hK : X.K = G.K.K) (h : PE X e (tE G W fa)) : PI X tg e (tI G W (iT fa)) := (pi_tup h).impV fun σ H R ⟨ρ, F, st, r, p⟩ => by
  refine tI_of (R := RV) r p (fun ρ1 F1 H1 x c1 v x1 r1 rv1 q hn => ?_) (fun x c1 => ?_)
  · rw [hK]
    cases rv1 with
    | tup h1 h2 => exact ⟨_, rfl, ⟨_, sqT_same r1.fz h1⟩, q _ rfl _ (wk_tup h1 h2)⟩
    | _ => exact absurd rfl hn
  · cases x <;> first | exact .inl ⟨_, rfl⟩ | exact .inr rfl
/-- range(n), range(a, b) -/
def rangeD (lo : Int) (n : Nat) : List D := (List.range n).map fun i => .int (lo + (i : Nat))
theorem wk_range {lo : Int} {n : Nat} : Wk G ρ F (Itr lo n) (rangeD lo n) keepAll := fun ρ1 F1 st1 σ1 H1 i x r _ => by
  refine ⟨fun d e => ?_, fun e => ?_⟩
  · unfold rangeD at e
    rw [List.getElem?_map] at e
    by_cases c : i < n
    · rw [List.getElem?_range c] at e
      cases e
      refine ⟨c, fun y H' ⟨e3, e4⟩ => ?_⟩
      subst e3 e4
      exact ⟨ρ1, F1, Ext.refl, rfl, fun _ _ h => h, r, .int _⟩
    · rw [List.getElem?_eq_none_iff.mpr (by rw [List.length_range]; omega)] at e
      cases e
  · unfold rangeD at e
    rw [List.length_map, List.length_range] at e
    show n ≤ i
    omega
def iR1 (g : Ax) : Ix := fun st => (g st).bind fun xs c1 => match xs with
  | [.int j] => if decide (-(2 ^ 62) ≤ j) && decide (j < 2 ^ 62) then .ok (rangeD 0 j.toNat, keepAll) c1 else .no
  | _ => .no
theorem di_range1 {a : Expr} {g : Ax} {p pos : Pos} (hg : Gl X "range") (hm : X.mg "range" = none) (ha : PA X [a] (tAs G W g)) (hs : starEach [a] X.env = [(false, eval a X.env)] := by rfl) : PI X tg (.Call (.Name "range" p) [a] [] pos) (tI G W (iR1 g)) :=
  (pi_range1 hg hm ha hs).impV fun σ H R ⟨ρ, F, st, r, p⟩ => by
    refine tI_of (R := RVs) r p (fun ρ1 F1 H1 xs c1 v x1 r1 rv1 q hn => ?_) (fun xs c1 => ?_)
    · split at hn
      · rename_i j
        by_cases c : (decide (-(2 ^ 62) ≤ j) && decide (j < 2 ^ 62)) = true
        · have q := q (rangeD 0 j.toNat, keepAll) (by simp only [c, if_true]) _ wk_range
          simp only [Bool.and_eq_true, decide_eq_true_eq] at c
          cases rv1 with
          | cons h1 h2 =>
            cases h1
            cases h2
            exact ⟨j, rfl, c.1, c.2, q⟩
        · simp only [c, if_false] at hn
          exact absurd rfl hn
      · exact absurd rfl hn
    · split
      · split
        · exact .inl ⟨_, rfl⟩
        · exact .inr rfl
      · exact .inr rfl
def iR2 (g : Ax) : Ix := fun st => (g st).bind fun xs c1 => match xs with
  | [.int i, .int j] => if decide (-(2 ^ 62) ≤ i) && decide (i < 2 ^ 62) && decide (-(2 ^ 62) ≤ j) && decide (j < 2 ^ 62) then .ok (rangeD i (j - i).toNat, keepAll) c1 else .no
  | _ => .no
theorem di_range2 {a b : Expr} {g : Ax} {p pos : Pos} (hg : Gl X "range") (hm : X.mg "range" = none) (ha : PA X [a, b] (tAs G W g)) (hs : starEach [a, b] X.env = [(false, eval a X.env), (false, eval b X.env)] := by rfl) (hs2 : starEach [b] X.env = [(false, eval b X.env)] := by rfl) : PI X tg (.Call (.Name "range" p) [a, b] [] pos) (tI G W (iR2 g)) :=
  (pi_range2 hg hm ha hs hs2).impV fun σ H R ⟨ρ, F, st, r, p⟩ => by
    refine tI_of (R := RVs) r p (fun ρ1 F1 H1 xs c1 v x1 r1 rv1 q hn => ?_) (fun xs c1 => ?_)
    · split at hn
      · rename_i i j
        by_cases c : (decide (-(2 ^ 62) ≤ i) && decide (i < 2 ^ 62) && decide (-(2 ^ 62) ≤ j) && decide (j < 2 ^ 62)) = true
        · have q := q (rangeD i (j - i).toNat, keepAll) (by simp only [c, if_true]) _ wk_range
          simp only [Bool.and_eq_true, decide_eq_true_eq] at c
          cases rv1 with
          | cons h1 h2 =>
            cases h1
            cases h2 with
            | cons h1 h2 =>
              cases h1
              cases h2
              exact ⟨i, j, rfl, ⟨c.1.1.1, c.1.1.2, c.1.2, c.2⟩, q⟩
        · simp only [c, if_false] at hn
          exact absurd rfl hn
      · exact absurd rfl hn
    · split
      · split
        · exact .inl ⟨_, rfl⟩
        · exact .inr rfl
      · exact .inr rfl
/-- a text sign by sign -/
def iS (f : Ex) : Ix := fun st => (f st).bind fun x c1 => match x with
  | .str z => .ok (z.cps.toList.map fun c => .str ⟨#[c]⟩, keepAll) c1
  | _ => .no
theorem di_str (h : PE X e (tE G W fa)) : PI X tg e (tI G W (iS fa)) := (pi_str h).impV fun σ H R ⟨ρ, F, st, r, p⟩ => by
  refine tI_of (R := RV) r p (fun ρ1 F1 H1 x c1 v x1 r1 rv1 q hn => ?_) (fun x c1 => ?_)
  · cases rv1 with
    | str z =>
      refine ⟨_, rfl, q _ rfl _ fun ρ2 F2 st2 σ2 H2 i x r _ => ⟨fun d e => ?_, fun e => ?_⟩⟩
      · rw [List.getElem?_map] at e
        cases q : z.cps.toList[i]? with
        | none => rw [q] at e; cases e
        | some c =>
          rw [q] at e
          cases e
          have q' : z.cps[i]? = some c := by rw [← Array.getElem?_toList]; exact q
          refine ⟨(Array.getElem?_eq_some_iff.mp q').1, fun y H' ⟨e3, c', e4, e5⟩ => ?_⟩
          rw [q'] at e4
          cases e4
          subst e3 e5
          exact ⟨ρ2, F2, Ext.refl, rfl, fun _ _ h => h, r, .str _⟩
      · rw [List.length_map, Array.length_toList] at e
        show z.cps.size ≤ i
        omega
    | _ => exact absurd rfl hn
  · cases x <;> first | exact .inl ⟨_, rfl⟩ | exact .inr rfl
/-- enumerate of a frozen list -/
def enumD (ds : List D) : List D := ds.mapIdx fun i d => .tup [.int (i : Nat), d]
theorem wk_enum {a : Addr} {ds : List D} {vs : List V} (hs : SqL G.K.K F a vs) (rv : RVs G.K ρ F ds vs) : Wk G ρ F (Ite G.K.K a) (enumD ds) keepAll := fun ρ1 F1 st1 σ1 H1 i x r _ => by
  have hs1 : SqL G.K.K H1 a vs := r.fz.seq (x.fz.seq hs)
  refine ⟨fun d e => ?_, fun e => ⟨vs, hs1, ?_⟩⟩
  · unfold enumD at e
    rw [List.getElem?_mapIdx] at e
    cases q : ds[i]? with
    | none => rw [q] at e; cases e
    | some d0 =>
      rw [q] at e
      cases e
      obtain ⟨v, e1, e2⟩ := (rv.ext x).get q
      refine ⟨⟨vs, v, hs1, e1⟩, fun y H' ⟨T, u, e3, e4, e5, e6⟩ => ?_⟩
      have := e6 vs hs1
      rw [e1] at this
      cases this
      subst e3 e5
      obtain ⟨x2, r2⟩ := r.fresh (o := .tup [.int (i : Nat), v]) e4
      exact ⟨ρ1, _, x2, rfl, same_upd' e4, r2, .tup (SqT.of upd_same) (.cons (.int _) (.cons (e2.ext x2) .nil))⟩
  · unfold enumD at e
    rw [List.length_mapIdx] at e
    rw [← rv.length]
    omega
def iEn (g : Ax) : Ix := fun st => (g st).bind fun xs c1 => match xs with
  | [.lst ds] => .ok (enumD ds, keepAll) c1
  | [.frl ds] => .ok (enumD ds, keepAll) c1
  | _ => .no
theorem di_enum {g : Ax} {p pos tpos : Pos} {elts : List Expr} {kk : Nat} (hK : X.K = G.K.K) (hg : Gl X "enumerate") (hm : X.mg "enumerate" = none) (ha : PA X [e] (tAs G W g)) (hs : starEach [e] X.env = [(false, eval e X.env)] := by rfl) :
    PI X (.Tuple elts kk tpos) (.Call (.Name "enumerate" p) [e] [] pos) (tI G W (iEn g)) :=
  (pi_enum hg hm ha hs).impV fun σ H R ⟨ρ, F, st, r, p⟩ => by
    refine tI_of (R := RVs) r p (fun ρ1 F1 H1 xs c1 v x1 r1 rv1 q hn => ?_) (fun xs c1 => ?_)
    · rw [hK]
      split at hn
      · cases rv1 with
        | cons h1 h2 =>
          cases h2
          cases h1 with
          | lst h1 h2 => exact ⟨_, _, rfl, SqL.of (r1.fz _ _ h1), q _ rfl _ (wk_enum (SqL.of h1) h2)⟩
      · cases rv1 with
        | cons h1 h2 =>
          cases h2
          cases h1 with
          | frl h1 h2 => exact ⟨_, _, rfl, r1.fz.seq h1, q _ rfl _ (wk_enum h1 h2)⟩
      · exact absurd rfl hn
    · split <;> first | exact .inl ⟨_, rfl⟩ | exact .inr rfl

/-! ### for -/
def forL (g : Gt) (body : Sx) (keep : List Cell → Bool) : List D → S → SOut
  | [], st => if keep st.cs then .nx st else .no
  | d :: ds, st => if keep st.cs then (match g d st with
    | some st1 => (match body st1 with
      | .nx st2 => forL g body keep ds st2
      | .ct st2 => forL g body keep ds st2
      | .bk st2 => .nx st2
      | o => o)
    | none => .no) else .no
def sFor (src : Ix) (g : Gt) (body : Sx) : Sx := fun st => thenS (src st) st.env fun w st' => forL g body w.2 w.1 st'
theorem ds_for {body : List Stmt} {src : Ix} {sl : List Nat} {g : Gt} {f : Sx} (hp : PassesOwn (model X.prog X.w) X.A X.env X.xe) (hc : X.calm = true) (hi : PI X tg e (tI G W src)) (hg : PG X tg (tG G sl g)) (hb : PSs X body (tS G W f)) (hs : ∀ x, foldedSetIterable e X.env x = pure x := by intro _; rfl) :
    PS X (.For tg e body [] pos) (tS G W (sFor src g f)) := (ps_for hp hc hi hg hb hs).impV fun D σ H ⟨ρ, F, st, r, p⟩ => by
  refine ⟨ρ, F, st, r, ?_⟩
  unfold sFor at p
  cases q : src st with
  | no => rw [q] at p; exact p
  | ex e' cs =>
    rw [q] at p
    exact fun ρ' F' H' c d x r' xa => p ρ' F' σ H' c d x r' xa
  | ok w cs =>
    rw [q] at p
    obtain ⟨ds, keep⟩ := w
    intro ρ' F' H' J x r' wk
    refine ⟨fun i m σ1 H1 => ∃ ρ1 F1 st1, Ext ρ' F' ρ1 F1 ∧ Rel G ρ1 F1 st1 σ1 H1 ∧ i + m = ds.length ∧ SPost G W ρ1 F1 D (forL g f keep (ds.drop i) st1), ⟨ds.length, ρ', F', _, Ext.refl, r', Nat.zero_add _, SPost.ext x p⟩, ?_⟩
    rintro i m σ1 H1 ⟨ρ1, F1, st1, x1, r1, em, p1⟩
    cases hd : ds.drop i with
    | nil =>
      rw [hd] at p1
      unfold forL at p1
      have hi : i = ds.length := by
        have := List.drop_eq_nil_iff.mp hd
        omega
      by_cases hk : keep st1.cs = true
      · rw [if_pos hk] at p1
        exact .inl ⟨(wk ρ1 F1 st1 σ1 H1 i x1 r1 hk).2 hi, p1 ρ1 F1 σ1 H1 Ext.refl r1⟩
      · rw [if_neg hk] at p1
        exact p1.elim
    | cons d rest =>
      rw [hd] at p1
      unfold forL at p1
      have hi : ds[i]? = some d := by
        have := List.getElem?_drop (xs := ds) (i := i) (j := 0)
        rw [hd, Nat.add_zero] at this
        exact this.symm
      have hr : ds.drop (i + 1) = rest := by
        rw [← List.drop_drop, hd]; rfl
      by_cases hk : keep st1.cs = true
      · rw [if_pos hk] at p1
        obtain ⟨go, yl⟩ := (wk ρ1 F1 st1 σ1 H1 i x1 r1 hk).1 d hi
        refine .inr ⟨go, fun σ2 H2 => ∃ ρ2 F2 st2, Ext ρ' F' ρ2 F2 ∧ Rel G ρ2 F2 st2 σ2 H2 ∧ SPost G W ρ2 F2 D (forL g f keep rest st2), fun σ2 H2 ⟨ρ2, F2, st2, x2, r2, p2⟩ => ⟨m - 1, ?_, ρ2, F2, st2, x2, r2, ?_, by rw [hr]; exact p2⟩, fun y H2 hy => ?_⟩
        · have := (List.getElem?_eq_some_iff.mp hi).1
          omega
        · have := (List.getElem?_eq_some_iff.mp hi).1
          omega
        · obtain ⟨ρ3, F3, x3, _, _, r3, rv3⟩ := yl y H2 hy
          have p3 := SPost.ext x3 p1
          cases q3 : g d st1 with
          | none => simp only [q3] at p3; exact p3.elim
          | some st3 =>
            simp only [q3] at p3
            refine ⟨ρ3, F3, st1, d, st3, r3, rv3, q3, fun σ4 r4 _ => ⟨ρ3, F3, st3, r4, ?_⟩⟩
            cases q4 : f st3 with
            | nx st4 =>
              simp only [q4] at p3
              exact fun ρ5 F5 σ5 H5 x5 r5 => ⟨ρ5, F5, st4, (x1.trans x3).trans x5, r5, SPost.ext x5 p3⟩
            | ct st4 =>
              simp only [q4] at p3
              exact fun ρ5 F5 σ5 H5 x5 r5 => ⟨ρ5, F5, st4, (x1.trans x3).trans x5, r5, SPost.ext x5 p3⟩
            | bk st4 =>
              simp only [q4] at p3
              exact p3
            | rt d4 st4 => simp only [q4] at p3; exact p3
            | ex e4 st4 => simp only [q4] at p3; exact p3
            | no => simp only [q4] at p3; exact p3
      · rw [if_neg hk] at p1
        exact p1.elim

/-! ### while -/
def whL (t : Tx) (body : Sx) : Nat → S → SOut
  | 0, _ => .no
  | n + 1, st => thenS (t st) st.env fun k st1 => if k then (match body st1 with
    | .nx st2 => whL t body n st2
    | .ct st2 => whL t body n st2
    | .bk st2 => .nx st2
    | o => o) else .nx st1
def sWhile (fuel : S → Nat) (t : Tx) (body : Sx) : Sx := fun st => whL t body (fuel st) st
theorem ds_while {c : Expr} {body : List Stmt} {fuel : S → Nat} {t : Tx} {f : Sx} (hp : PassesOwn (model X.prog X.w) X.A X.env X.xe) (hc : PT X c (tTs G W t)) (hb : PSs X body (tS G W f)) : PS X (.While c body [] pos) (tS G W (sWhile fuel t f)) :=
  (ps_while hp hc hb).impV fun D σ H ⟨ρ, F, st, r, p⟩ => by
    refine ⟨fun m σ1 H1 => ∃ ρ1 F1 st1, Rel G ρ1 F1 st1 σ1 H1 ∧ SPost G W ρ1 F1 D (whL t f m st1), ⟨fuel st, ρ, F, st, r, p⟩, ?_⟩
    rintro m σ1 H1 ⟨ρ1, F1, st1, r1, p1⟩
    cases m with
    | zero => exact p1.elim
    | succ n =>
      unfold whL at p1
      refine seqS (R := RB) (f := t) r1 p1 fun ρ2 F2 H2 k c2 k' x2 r2 e p2 => ?_
      have e : k = k' := e
      subst e
      cases k with
      | false => exact p2 ρ2 F2 σ1 H2 Ext.refl r2
      | true =>
        rw [if_pos rfl]
        rw [if_pos rfl] at p2
        refine ⟨fun σ3 H3 => ∃ ρ3 F3 st3, Rel G ρ3 F3 st3 σ3 H3 ∧ SPost G W ρ3 F3 D (whL t f n st3), fun σ3 H3 h3 => ⟨n, Nat.lt_succ_self n, h3⟩, ρ2, F2, _, r2, ?_⟩
        cases q4 : f ⟨st1.env, c2⟩ with
        | nx st4 =>
          simp only [q4] at p2
          exact fun ρ5 F5 σ5 H5 x5 r5 => ⟨ρ5, F5, st4, r5, SPost.ext x5 p2⟩
        | ct st4 =>
          simp only [q4] at p2
          exact fun ρ5 F5 σ5 H5 x5 r5 => ⟨ρ5, F5, st4, r5, SPost.ext x5 p2⟩
        | bk st4 => simp only [q4] at p2; exact p2
        | rt d4 st4 => simp only [q4] at p2; exact p2
        | ex e4 st4 => simp only [q4] at p2; exact p2
        | no => simp only [q4] at p2; exact p2
end
end VL

namespace VL
open PySem L2
/-- nothing is raised -/
abbrev W0 : WX := fun _ _ _ _ => False
def wipeD (env : List (Option D)) : List Nat → List (Option D)
  | [] => env
  | v :: vs => (wipeD env vs).set v none
theorem wipeD_length (env : List (Option D)) : ∀ vs : List Nat, (wipeD env vs).length = env.length
  | [] => rfl
  | v :: vs => by unfold wipeD; rw [List.length_set, wipeD_length env vs]
theorem wipeD_some {env : List (Option D)} {i : Nat} {x : D} : ∀ {vs : List Nat}, (wipeD env vs)[i]? = some (some x) → env[i]? = some (some x) ∧ i ∉ vs
  | [], h => ⟨h, by simp⟩
  | v :: vs, h => by
    unfold wipeD at h
    by_cases hi : v = i
    · subst hi
      by_cases hv : v < (wipeD env vs).length
      · rw [List.getElem?_set_self hv] at h; cases h
      · rw [List.getElem?_eq_none (by simpa using hv)] at h; cases h
    · rw [List.getElem?_set_ne hi] at h
      obtain ⟨h1, h2⟩ := wipeD_some h
      exact ⟨h1, by simp only [List.mem_cons, not_or]; exact ⟨fun e => hi e.symm, h2⟩⟩
theorem wipe_get {σ : St} {j : Nat} : ∀ {vs : List Nat}, (wipe σ vs)[j]? = if j ∈ vs then (if j < σ.length then some none else none) else σ[j]?
  | [] => by simp [wipe]
  | v :: vs => by
    unfold wipe
    by_cases hj : v = j
    · subst hj
      rw [if_pos List.mem_cons_self]
      by_cases hv : v < σ.length
      · rw [if_pos hv, List.getElem?_set_self (by rw [wipe_length]; exact hv)]
      · rw [if_neg hv, List.getElem?_eq_none (by rw [List.length_set, wipe_length]; omega)]
    · rw [List.getElem?_set_ne hj, wipe_get (vs := vs)]
      by_cases h : j ∈ vs
      · rw [if_pos h, if_pos (List.mem_cons_of_mem _ h)]
      · rw [if_neg h, if_neg (fun z => (List.mem_cons.mp z).elim (fun e => hj e.symm) h)]
theorem wipe_but {vs sl : List Nat} {σ σ' : St} (h : But sl (wipe σ vs) σ') (hs : ∀ i ∈ sl, i ∈ vs) : wipe σ' vs = wipe σ vs := by
  have hl : σ'.length = σ.length := by rw [h.1, wipe_length]
  refine List.ext_getElem? fun j => ?_
  rw [wipe_get, wipe_get]
  by_cases hj : j ∈ vs
  · rw [if_pos hj, if_pos hj, hl]
  · rw [if_neg hj, if_neg hj, h.2 j (fun z => hj (hs j z)), wipe_get, if_neg hj]
section
variable {X : Cx} {G : Gx} {ρ ρ' : List Addr} {F F' : Hp} {st : S} {σ σ' : St} {H H' : Hp}
theorem Rel.wiped (r : Rel G ρ F st σ H) (vs : List Nat) : Rel G ρ F ⟨wipeD st.env vs, st.cs⟩ (wipe σ vs) H :=
  ⟨by show (wipeD st.env vs).length = _; rw [wipeD_length, wipe_length, r.len], fun i d e => by
    obtain ⟨h1, h2⟩ := wipeD_some e
    obtain ⟨v, e1, e2⟩ := r.env i d h1
    exact ⟨v, by rw [wipe_get, if_neg h2]; exact e1, e2⟩, r.cl, r.cell, r.nd, r.fz, r.sep, r.fr, r.own, r.new, r.old, r.a0⟩
/-- back to elder slots -/
theorem Rel.back {env env' : List (Option D)} {cs cs' : List Cell} (r : Rel G ρ F ⟨env, cs⟩ σ H) (x : Ext ρ F ρ' F') (r' : Rel G ρ' F' ⟨env', cs'⟩ σ' H') : Rel G ρ' F' ⟨env, cs'⟩ σ H' :=
  ⟨r.len, fun i d e => let ⟨v, e1, e2⟩ := r.env i d e; ⟨v, e1, e2.ext x⟩, r'.cl, r'.cell, r'.nd, r'.fz, r'.sep, r'.fr, r'.own, r'.new, r'.old, r'.a0⟩
end
/-! ### the own cells that a value names lie below n -/
mutual
def below (n : Nat) : D → Bool
  | .non => true
  | .bl _ => true
  | .int _ => true
  | .str _ => true
  | .tup ds => belows n ds
  | .lst ds => belows n ds
  | .frl ds => belows n ds
  | .obj _ _ ds => belows n ds
  | .cls _ => true
  | .loc m => decide (m < n)
def belows (n : Nat) : List D → Bool
  | [] => true
  | d :: r => below n d && belows n r
end
def belowC (n : Nat) : Cell → Bool
  | .lst ds => belows n ds
  | .dk _ ds => belows n ds
  | .ins _ _ ds => belows n ds
mutual
theorem RV.cut {K : Kt} {ρ : List Addr} {F F' : Hp} {n : Nat} (s : Same F F') : ∀ {d : D} {v : V}, RV K ρ F d v → below n d = true → RV K (ρ.take n) F' d v
  | _, _, .non, _ => .non
  | _, _, .bl b, _ => .bl b
  | _, _, .int i, _ => .int i
  | _, _, .str x, _ => .str x
  | _, _, .tup h r, e => .tup (sqT_same s h) (RVs.cut s r (by simpa [below] using e))
  | _, _, .lst h r, e => .lst (s _ _ h) (RVs.cut s r (by simpa [below] using e))
  | _, _, .frl h r, e => .frl (s.seq h) (RVs.cut s r (by simpa [below] using e))
  | _, _, .obj h l r, e => .obj (s _ _ h) l (RVs.cut s r (by simpa [below] using e))
  | _, _, .cls C, _ => .cls C
  | _, _, .loc h, e => .loc (by
    simp only [below, decide_eq_true_eq] at e
    rw [List.getElem?_take_of_lt e]
    exact h)
theorem RVs.cut {K : Kt} {ρ : List Addr} {F F' : Hp} {n : Nat} (s : Same F F') : ∀ {ds : List D} {vs : List V}, RVs K ρ F ds vs → belows n ds = true → RVs K (ρ.take n) F' ds vs
  | _, _, .nil, _ => .nil
  | _, _, .cons h r, e => by
    simp only [belows, Bool.and_eq_true] at e
    exact .cons (RV.cut s h e.1) (RVs.cut s r e.2)
end
theorem CellAt.cut {K : Kt} {ρ : List Addr} {F F' H : Hp} {a : Addr} {n : Nat} (s : Same F F') : ∀ {c : Cell}, CellAt K ρ F H a c → belowC n c = true → CellAt K (ρ.take n) F' H a c
  | .lst _, ⟨_, h, r⟩, e => ⟨_, h, r.cut s e⟩
  | .dk _ _, ⟨_, h, l, r⟩, e => ⟨_, h, l, r.cut s e⟩
  | .ins _ _ _, ⟨_, _, h, l, r⟩, e => ⟨_, _, h, l, r.cut s e⟩
/-- the last own cell, a list, becomes a frozen one: its place leaves the cells -/
theorem Rel.freeze {G : Gx} {ρ0 ρ : List Addr} {F0 F : Hp} {env0 env : List (Option D)} {cs0 cs : List Cell} {ds : List D} {σ0 σ : St} {H0 H : Hp} {a : Addr} {n : Nat} (r0 : Rel G ρ0 F0 ⟨env0, cs0⟩ σ0 H0) (hn : n = cs0.length) (x : Ext ρ0 F0 ρ F)
    (r : Rel G ρ F ⟨env, cs ++ [.lst ds]⟩ σ H) (hl : cs.length = n) (ha : ρ[n]? = some a) (b1 : belows n ds = true) (b2 : cs.all (belowC n) = true) :
    ∃ F', Ext ρ0 F0 ρ0 F' ∧ Rel G ρ0 F' ⟨env0, cs⟩ σ0 H ∧ RV G.K ρ0 F' (.lst ds) (.ref a) := by
  have hρ : ρ.take n = ρ0 := by
    obtain ⟨t, rfl⟩ := x.pre
    rw [hn, ← show ρ0.length = cs0.length from r0.cl, List.take_left]
  obtain ⟨vs, h1, h2⟩ := r.cell n (.lst ds) a (by
    show (cs ++ [Cell.lst ds])[n]? = _
    rw [List.getElem?_append_right (by omega), hl, Nat.sub_self]; rfl) ha
  have hm : a ∈ ρ := List.mem_of_getElem? ha
  have hFa : F a = none := r.sep a hm
  have s1 : Same F (upd F a (.lst vs)) := same_upd' hFa
  have hlen : ρ.length = n + 1 := by rw [show ρ.length = (cs ++ [Cell.lst ds]).length from r.cl, List.length_append, hl]; rfl
  have hna : a ∉ ρ0 := fun z => by
    rw [← hρ] at z
    obtain ⟨i, hi, e⟩ := List.getElem_of_mem z
    rw [List.length_take] at hi
    have hin : i < n := by omega
    rw [List.getElem_take] at e
    obtain ⟨h3, h3'⟩ := List.getElem?_eq_some_iff.mp ha
    have := (List.getElem_inj r.nd).mp (e.trans h3'.symm)
    omega
  have hA : a ∉ G.A0 := fun z => hna (r0.a0.subset z)
  have hH0 : G.H0 a = none := (r.own a hm).resolve_left hA
  refine ⟨upd F a (.lst vs), ⟨List.prefix_refl _, x.fz.trans s1⟩, ⟨r0.len, fun i d e => ?_, ?_, fun i c b e1 e2 => ?_, r0.nd, fun b o e => ?_, fun b hb => ?_, r.fr, fun b hb => r.own b (x.pre.subset hb), fun b o e => ?_, r.old.trans s1, r0.a0⟩, ?_⟩
  · obtain ⟨v, e1, e2⟩ := r0.env i d e
    exact ⟨v, e1, e2.ext ⟨List.prefix_refl _, x.fz.trans s1⟩⟩
  · show ρ0.length = cs.length
    rw [hl, hn]; exact r0.cl
  · have e1 : cs[i]? = some c := e1
    have hi : i < cs.length := (List.getElem?_eq_some_iff.mp e1).1
    have e3 : ρ[i]? = some b := x.at e2
    have := r.cell i c b (by show (cs ++ [Cell.lst ds])[i]? = _; rw [List.getElem?_append_left hi]; exact e1) e3
    have q := this.cut (n := n) s1 (List.all_eq_true.mp b2 c (List.mem_of_getElem? e1))
    rw [hρ] at q
    exact q
  · by_cases hb : b = a
    · subst hb
      rw [upd_same] at e
      cases e
      exact h1
    · rw [upd_ne hb] at e
      exact r.fz b o e
  · rw [upd_ne (show b ≠ a from fun z => hna (by rw [← z]; exact hb))]
    exact r.sep b (x.pre.subset hb)
  · by_cases hb : b = a
    · subst hb
      exact .inr hH0
    · rw [upd_ne hb] at e
      exact r.new b o e
  · have q := h2.cut (n := n) s1 b1
    rw [hρ] at q
    exact .lst upd_same q
/-! ### comprehensions -/
/-- the list is made in the cell n -/
def lcL (g : Gt) (t : Tx) (f : Ex) (keep : List Cell → Bool) (env : List (Option D)) (n : Nat) : List D → List Cell → Option (List Cell)
  | [], cs => if keep cs then some cs else none
  | d :: ds, cs => if keep cs then (match g d ⟨env, cs⟩ with
    | some st1 => (match t st1 with
      | .ok true c2 => (match f ⟨st1.env, c2⟩ with
        | .ok y c3 => (match c3[n]? with
          | some (.lst acc) => if acc.length < 16777216 then lcL g t f keep env n ds (c3.set n (.lst (acc ++ [y]))) else none
          | _ => none)
        | _ => none)
      | .ok false c2 => lcL g t f keep env n ds c2
      | _ => none)
    | none => none) else none
/-- split off the last cell -/
def lastCell (cs : List Cell) : Option (List Cell × List D) := match cs.reverse with
  | .lst ds :: r => some (r.reverse, ds)
  | _ => none
theorem lastCell_eq {cs c1 : List Cell} {ds : List D} (h : lastCell cs = some (c1, ds)) : cs = c1 ++ [.lst ds] := by
  unfold lastCell at h
  split at h
  · rename_i es r e
    cases h
    rw [← List.reverse_reverse cs, e, List.reverse_cons]
  · cases h
/-- a comprehension's list, frozen -/
def eLc (src : Ix) (g : Gt) (t : Tx) (f : Ex) (vs : List Nat) : Ex := fun st => (src st).bind fun w c1 => match lcL g t f w.2 (wipeD st.env vs) c1.length w.1 (c1 ++ [.lst []]) with
  | some c2 => (match lastCell c2 with
    | some (c3, ds) => if c3.length = c1.length ∧ belows c1.length ds = true ∧ c3.all (belowC c1.length) = true then .ok (.lst ds) c3 else .no
    | none => .no)
  | none => .no
/-- a comprehension's list, an own cell -/
def eLcLoc (src : Ix) (g : Gt) (t : Tx) (f : Ex) (vs : List Nat) : Ex := fun st => (src st).bind fun w c1 => match lcL g t f w.2 (wipeD st.env vs) c1.length w.1 (c1 ++ [.lst []]) with
  | some c2 => .ok (.loc c1.length) c2
  | none => .no
section
variable {X : Cx} {G : Gx} {W : WX} {tg iter elt : Expr} {ifs : List Expr}
theorem lc_of {src : Ix} {sl vs : List Nat} {g : Gt} {t : Tx} {f : Ex} (hsl : ∀ i ∈ sl, i ∈ vs) {k : S → Walk → List Cell → List Cell → Out D} {σ : St} {H : Hp} {Q : VK} {ρ : List Addr} {F : Hp} {st : S} (r : Rel G ρ F st σ H)
    (p : Post RV G W ρ F st.env σ Q ((src st).bind fun w c1 => match lcL g t f w.2 (wipeD st.env vs) c1.length w.1 (c1 ++ [.lst []]) with
      | some c2 => k st w c1 c2
      | none => .no))
    (fin : ∀ (w : Walk) (c1 c2 : List Cell) (ρ1 : List Addr) (F1 H1 : Hp) (ρ2 : List Addr) (F2 H2 : Hp) (a : Addr), Ext ρ F ρ1 F1 → Rel G ρ1 F1 ⟨st.env, c1⟩ σ H1 → Ext (ρ1 ++ [a]) F1 ρ2 F2 → Rel G ρ2 F2 ⟨st.env, c2⟩ σ H2 → ρ1.length = c1.length → Post RV G W ρ F st.env σ Q (k st w c1 c2) → Q (.ref a) H2) :
    tLc (tI G W src) (tG G sl g) (tTs G W0 t) (tE G W0 f) vs σ H Q := by
  refine ⟨ρ, F, st, r, ?_⟩
  cases q : src st with
  | no => rw [q] at p; exact p
  | ex e' cs =>
    rw [q] at p
    exact fun ρ' F' H' c d x r' xa => p ρ' F' H' c d x r' xa
  | ok w c1 =>
    rw [q] at p
    have p : Post RV G W ρ F st.env σ Q (match lcL g t f w.2 (wipeD st.env vs) c1.length w.1 (c1 ++ [.lst []]) with
      | some c2 => k st w c1 c2
      | none => .no) := p
    cases q2 : lcL g t f w.2 (wipeD st.env vs) c1.length w.1 (c1 ++ [.lst []]) with
    | none => rw [q2] at p; exact p.elim
    | some c2 =>
    rw [q2] at p
    obtain ⟨ds, keep⟩ := w
    have q2 : lcL g t f keep (wipeD st.env vs) c1.length ds (c1 ++ [.lst []]) = some c2 := q2
    intro ρ1 F1 H1 J x1 r1 wk D hD
    have hl1 : ρ1.length = c1.length := r1.cl
    have y0 : Ext ρ1 F1 (ρ1 ++ [D]) F1 := ⟨List.prefix_append _ _, Same.refl _⟩
    obtain ⟨_, r2⟩ := r1.cellNew (p := D) (o := .lst []) (c := .lst []) hD ⟨[], upd_same, .nil⟩
    refine ⟨fun i m H2 => ∃ ρ2 F2 cs, Ext (ρ1 ++ [D]) F1 ρ2 F2 ∧ Rel G ρ2 F2 ⟨st.env, cs⟩ σ H2 ∧ i + m = ds.length ∧ lcL g t f keep (wipeD st.env vs) c1.length (ds.drop i) cs = some c2, ⟨ds.length, ρ1 ++ [D], F1, _, Ext.refl, r2, Nat.zero_add _, q2⟩, ?_⟩
    rintro i m H2 ⟨ρ2, F2, cs, x2, r2, em, e2⟩
    cases hd : ds.drop i with
    | nil =>
      rw [hd] at e2
      unfold lcL at e2
      have hi : i = ds.length := by
        have := List.drop_eq_nil_iff.mp hd
        omega
      by_cases hk : keep cs = true
      · rw [if_pos hk] at e2
        cases e2
        exact .inl ⟨(wk ρ2 F2 _ σ H2 i (y0.trans x2) r2 hk).2 hi, fin _ _ _ _ _ _ _ _ _ _ x1 r1 x2 r2 hl1 p⟩
      · rw [if_neg hk] at e2
        cases e2
    | cons d rest =>
      rw [hd] at e2
      unfold lcL at e2
      have hi : ds[i]? = some d := by
        have := List.getElem?_drop (xs := ds) (i := i) (j := 0)
        rw [hd, Nat.add_zero] at this
        exact this.symm
      have hr : ds.drop (i + 1) = rest := by
        rw [← List.drop_drop, hd]; rfl
      by_cases hk : keep cs = true
      · rw [if_pos hk] at e2
        obtain ⟨go, yl⟩ := (wk ρ2 F2 _ σ H2 i (y0.trans x2) r2 hk).1 d hi
        refine .inr ⟨go, fun H3 => ∃ ρ3 F3 cs3, Ext (ρ1 ++ [D]) F1 ρ3 F3 ∧ Rel G ρ3 F3 ⟨st.env, cs3⟩ σ H3 ∧ lcL g t f keep (wipeD st.env vs) c1.length rest cs3 = some c2, fun H3 ⟨ρ3, F3, cs3, x3, r3, e3⟩ => ⟨m - 1, ?_, ρ3, F3, cs3, x3, r3, ?_, by rw [hr]; exact e3⟩, fun y H3 hy => ?_⟩
        · have := (List.getElem?_eq_some_iff.mp hi).1
          omega
        · have := (List.getElem?_eq_some_iff.mp hi).1
          omega
        · obtain ⟨ρ3, F3, x3, _, _, r3, rv3⟩ := yl y H3 hy
          have x23 := x2.trans x3
          cases q3 : g d ⟨wipeD st.env vs, cs⟩ with
          | none => simp only [q3] at e2; cases e2
          | some st1 =>
            simp only [q3] at e2
            refine ⟨ρ3, F3, _, d, st1, r3.wiped vs, rv3, q3, fun σ4 r4 b4 => ⟨wipe_but b4 hsl, ρ3, F3, st1, r4, ?_⟩⟩
            cases q4 : t st1 with
            | no => simp only [q4] at e2; cases e2
            | ex _ _ => simp only [q4] at e2; cases e2
            | ok b c4 =>
              intro ρ5 F5 H5 b' x5 r5 eb
              have eb : b = b' := eb
              subst eb
              cases b with
              | false =>
                simp only [q4] at e2
                exact ⟨ρ5, F5, c4, x23.trans x5, r3.back x5 r5, e2⟩
              | true =>
                simp only [q4] at e2
                rw [if_pos rfl]
                refine ⟨ρ5, F5, _, r5, ?_⟩
                cases q6 : f ⟨st1.env, c4⟩ with
                | no => simp only [q6] at e2; cases e2
                | ex _ _ => simp only [q6] at e2; cases e2
                | ok z c6 =>
                  simp only [q6] at e2
                  intro ρ7 F7 H7 v x7 r7 rv7
                  cases q7 : c6[c1.length]? with
                  | none => simp only [q7] at e2; cases e2
                  | some c0 =>
                    cases c0 with
                    | dk _ _ => simp only [q7] at e2; cases e2
                    | ins _ _ _ => simp only [q7] at e2; cases e2
                    | lst acc =>
                      simp only [q7] at e2
                      by_cases hz : acc.length < 16777216
                      · rw [if_pos hz] at e2
                        have x27 := (x23.trans x5).trans x7
                        have hat : ρ7[c1.length]? = some D := x27.at (by
                          rw [← hl1, List.getElem?_append_right (Nat.le_refl _), Nat.sub_self]; rfl)
                        obtain ⟨ws, h8, h9⟩ := r7.cell _ _ _ q7 hat
                        refine ⟨ws, h8, by rw [← h9.length, sizeLine_eq]; exact hz, ρ7, F7, _, x27, ?_, e2⟩
                        have r8 := r3.back (x5.trans x7) r7
                        exact r8.cellSet (c := .lst (acc ++ [z])) hat ⟨_, upd_same, h9.append (RVs.one rv7)⟩
                      · rw [if_neg hz] at e2
                        cases e2
      · rw [if_neg hk] at e2
        cases e2
variable {scope : Scope} {own : List (Str × Nat)} {pos : Pos} {src : Ix} {sl : List Nat} {g : Gt} {t : Tx} {f : Ex}
theorem eLc_of (hsl : ∀ i ∈ sl, i ∈ own.map (·.2)) : ∀ σ H Q, tE G W (eLc src g t f (own.map (·.2))) σ H Q → tLc (tI G W src) (tG G sl g) (tTs G W0 t) (tE G W0 f) (own.map (·.2)) σ H Q := fun σ H Q ⟨ρ, F, st, r, p⟩ =>
  lc_of hsl (k := fun _ _ c1 c2 => match lastCell c2 with
    | some (c3, ds) => if c3.length = c1.length ∧ belows c1.length ds = true ∧ c3.all (belowC c1.length) = true then .ok (.lst ds) c3 else .no
    | none => .no) r p fun w c1 c2 ρ1 F1 H1 ρ2 F2 H2 a x1 r1 x2 r2 hl p2 => by
    cases q : lastCell c2 with
    | none => simp only [q] at p2; exact p2.elim
    | some z =>
      obtain ⟨c3, ds⟩ := z
      simp only [q] at p2
      have e := lastCell_eq q
      subst e
      by_cases c : c3.length = c1.length ∧ belows c1.length ds = true ∧ c3.all (belowC c1.length) = true
      · rw [if_pos c] at p2
        have y0 : Ext ρ1 F1 (ρ1 ++ [a]) F1 := ⟨List.prefix_append _ _, Same.refl _⟩
        obtain ⟨F', x3, r3, rv3⟩ := Rel.freeze (a := a) r1 rfl (y0.trans x2) r2 c.1 (x2.at (by rw [← hl, List.getElem?_append_right (Nat.le_refl _), Nat.sub_self]; rfl)) c.2.1 c.2.2
        exact p2 ρ1 F' H2 _ (x1.trans x3) r3 rv3
      · rw [if_neg c] at p2
        exact p2.elim
theorem eLcLoc_of (hsl : ∀ i ∈ sl, i ∈ own.map (·.2)) : ∀ σ H Q, tE G W (eLcLoc src g t f (own.map (·.2))) σ H Q → tLc (tI G W src) (tG G sl g) (tTs G W0 t) (tE G W0 f) (own.map (·.2)) σ H Q := fun σ H Q ⟨ρ, F, st, r, p⟩ =>
  lc_of hsl (k := fun _ _ c1 c2 => .ok (.loc c1.length) c2) r p fun w c1 c2 ρ1 F1 H1 ρ2 F2 H2 a x1 r1 x2 r2 hl p2 => by
    have y0 : Ext ρ1 F1 (ρ1 ++ [a]) F1 := ⟨List.prefix_append _ _, Same.refl _⟩
    exact p2 ρ2 F2 H2 _ (x1.trans (y0.trans x2)) r2 (.loc (x2.at (by rw [← hl, List.getElem?_append_right (Nat.le_refl _), Nat.sub_self]; rfl)))
theorem de_lc (hc : X.calm = true) (hN : X.N.Nodup) (hi : PI X tg iter (tI G W src)) (ok : BlkOk X.N X.env.scope scope own) (hsl : ∀ i ∈ sl, i ∈ own.map (·.2))
    (hg : ∀ (s : Shared) (H : Hp) (C : Addr) (cl : List (Str × Addr)) (fp : List Addr), PG (X.blk s H scope (compEnvC scope cl C X.env) fp) tg (tG G sl g)) (ht : ∀ (s : Shared) (H : Hp) (C : Addr) (cl : List (Str × Addr)) (fp : List Addr), PTs (X.blk s H scope (compEnvC scope cl C X.env) fp) ifs (tTs G W0 t))
    (he : ∀ (s : Shared) (H : Hp) (C : Addr) (cl : List (Str × Addr)) (fp : List Addr), PE (X.blk s H scope (compEnvC scope cl C X.env) fp) elt (tE G W0 f)) (hs : ∀ x, foldedSetIterable iter X.env x = pure x := by intro _; rfl) :
    PE X (.ListComp elt [⟨tg, iter, ifs, 0⟩] scope pos) (tE G W (eLc src g t f (own.map (·.2)))) := (pe_lc hc hN hi ok hg ht he hs).impV (eLc_of hsl)
theorem de_lcLoc (hc : X.calm = true) (hN : X.N.Nodup) (hi : PI X tg iter (tI G W src)) (ok : BlkOk X.N X.env.scope scope own) (hsl : ∀ i ∈ sl, i ∈ own.map (·.2))
    (hg : ∀ (s : Shared) (H : Hp) (C : Addr) (cl : List (Str × Addr)) (fp : List Addr), PG (X.blk s H scope (compEnvC scope cl C X.env) fp) tg (tG G sl g)) (ht : ∀ (s : Shared) (H : Hp) (C : Addr) (cl : List (Str × Addr)) (fp : List Addr), PTs (X.blk s H scope (compEnvC scope cl C X.env) fp) ifs (tTs G W0 t))
    (he : ∀ (s : Shared) (H : Hp) (C : Addr) (cl : List (Str × Addr)) (fp : List Addr), PE (X.blk s H scope (compEnvC scope cl C X.env) fp) elt (tE G W0 f)) (hs : ∀ x, foldedSetIterable iter X.env x = pure x := by intro _; rfl) :
    PE X (.ListComp elt [⟨tg, iter, ifs, 0⟩] scope pos) (tE G W (eLcLoc src g t f (own.map (·.2)))) := (pe_lc hc hN hi ok hg ht he hs).impV (eLcLoc_of hsl)
def tTrue : Tx := fun st => .ok true st.cs
theorem dts_nil : PTs X [] (tTs G W tTrue) := ⟨fun pins s σ H Q I ⟨ρ, F, st, r, p⟩ => pts_nil.run pins s σ H Q I (p.here r rfl)⟩
theorem dts_one {c : Expr} (h : PT X c (tTs G W t)) : PTs X [c] (tTs G W t) := pts_one h
end
end VL

namespace VL
open PySem L2
/-! ### a def's promise by a plain function -/
abbrev Fn := List D → List Cell → Out D
/-- the entry's facts: what is handed in and the cells that may be changed -/
def OPost (G : Gx) (Q : VK) (E : XK) : Out D → Prop
  | .ok d cs => ∀ ρ F H v, Ext G.A0 G.F0 ρ F → Rel G ρ F ⟨[], cs⟩ [] H → RV G.K ρ F d v → Q v H
  | .ex e cs => ∀ ρ F H cls dx, Ext G.A0 G.F0 ρ F → Rel G ρ F ⟨[], cs⟩ [] H → XAt G.K ρ F e cls dx → E cls dx H
  | .no => False
def spF (K : Kt) (n : Nat) (fn : Fn) : Sp := fun vs H Q E => ∃ (ρ0 : List Addr) (F0 : Hp) (ds : List D) (cs : List Cell), Rel ⟨K, H, F0, ρ0⟩ ρ0 F0 ⟨[], cs⟩ [] H ∧ RVs K ρ0 F0 ds vs ∧ ds.length = n ∧ OPost ⟨K, H, F0, ρ0⟩ Q E (fn ds cs)
theorem spF_len {K : Kt} {n : Nat} {fn : Fn} {vs : List V} {H : Hp} {Q : VK} {E : XK} (h : spF K n fn vs H Q E) : vs.length = n := by
  obtain ⟨ρ0, F0, ds, cs, _, r, e, _⟩ := h
  rw [← r.length, e]
def startD (n : Nat) (ds : List D) : List (Option D) := ds.map some ++ List.replicate (n - ds.length) none
/-- a body as a function; its own cells stay -/
def runF (n : Nat) (body : Sx) : Fn := fun ds cs => match body ⟨startD n ds, cs⟩ with
  | .rt d st => .ok d st.cs
  | .nx st => .ok .non st.cs
  | .ex e st => .ex e st.cs
  | _ => .no
theorem start_rel {G : Gx} {ρ : List Addr} {F H : Hp} {cs : List Cell} {ds : List D} {vs : List V} {N : List Str} (r : Rel G ρ F ⟨[], cs⟩ [] H) (rv : RVs G.K ρ F ds vs) : Rel G ρ F ⟨startD N.length ds, cs⟩ (start N vs) H := by
  refine ⟨?_, fun i d e => ?_, r.cl, r.cell, r.nd, r.fz, r.sep, r.fr, r.own, r.new, r.old, r.a0⟩
  · show (startD N.length ds).length = _
    unfold startD L2.start
    rw [List.length_append, List.length_append, List.length_map, List.length_map, List.length_replicate, List.length_replicate, rv.length]
  · have e : (startD N.length ds)[i]? = some (some d) := e
    unfold startD at e
    unfold L2.start
    by_cases hi : i < ds.length
    · rw [List.getElem?_append_left (by rw [List.length_map]; exact hi), List.getElem?_map] at e
      cases q : ds[i]? with
      | none => rw [q] at e; cases e
      | some d' =>
        rw [q] at e
        cases e
        obtain ⟨v, e1, e2⟩ := rv.get q
        refine ⟨v, ?_, e2⟩
        rw [List.getElem?_append_left (by rw [List.length_map, ← rv.length]; exact hi), List.getElem?_map, e1]
        rfl
    · rw [List.getElem?_append_right (by rw [List.length_map]; omega), List.getElem?_replicate] at e
      split at e <;> cases e
theorem Rel.noenv {G : Gx} {ρ : List Addr} {F H : Hp} {st : S} {σ : St} (r : Rel G ρ F st σ H) : Rel G ρ F ⟨[], st.cs⟩ [] H :=
  ⟨rfl, fun i d e => by simp at e, r.cl, r.cell, r.nd, r.fz, r.sep, r.fr, r.own, r.new, r.old, r.a0⟩
section
variable {P : Program} {w : World} {K : Kt} {mg : Str → Option Value} {base : Heap}
theorem body_of {N : List Str} {body : Sx} {vs : List V} {H : Hp} {Q : VK} {E : XK} {ps : Nat} (h : spF K ps (runF N.length body) vs H Q E) :
    ∃ G : Gx, G.K = K ∧ tS G (fun cls d _ H' => E cls d H') body { nx := fun _ H' => Q .non H', rt := Q } (start N vs) H := by
  obtain ⟨ρ0, F0, ds, cs, r, rv, _, p⟩ := h
  refine ⟨⟨K, H, F0, ρ0⟩, rfl, ρ0, F0, _, start_rel r rv, ?_⟩
  unfold runF at p
  cases q : body ⟨startD N.length ds, cs⟩ with
  | nx st => rw [q] at p; exact fun ρ F σ H x r' => p ρ F H .non x r'.noenv .non
  | rt d st => rw [q] at p; exact fun ρ F σ H v x r' rv' => p ρ F H v x r'.noenv rv'
  | ex e st => rw [q] at p; exact fun ρ F σ H c d x r' xa => p ρ F H c d x r'.noenv xa
  | bk st => rw [q] at p; exact p.elim
  | ct st => rw [q] at p; exact p.elim
  | no => rw [q] at p; exact p.elim
/-- THE RULE: a def by its body's plain function -/
theorem okV {x qual : Str} {st : Stmt} {f : Addr} {fd : FuncData} {N ps : List Str} {k : Nat} {body : Sx} (F : Fun K.K x qual st f fd) (S : FnScope N ps (defScope st))
    (hbody : ∀ (G : Gx), G.K = K → ∀ (cdv : Value) (A : Around) (outer : List Env) (s : Shared) (H : Hp) (E : XK), Room k (A.deeper (PyProof.Rows.envOfC qual (defScope st) s.heap.objs.size f cdv)) →
      PSs (cxOf (L2.CX P w) P w K.K mg base N qual (defScope st) f cdv A outer s H E) (defBody st) (tS G (fun cls d _ H' => E cls d H') body)) :
    FnOk P w K.K mg base (L2.CX P w) (k + 1) f fd ps (spF K ps.length (runF N.length body)) := by
  refine F.okX S (fun vs H Q E h => spF_len h) (fun cdv A outer s H vs Q E hr h => ?_)
  obtain ⟨G, e, t⟩ := body_of h
  exact ⟨_, hbody G e cdv A outer s H E hr, t⟩
end
/-! ### a call: all cells are handed on -/
section
variable {X : Cx} {G : Gx} {W : WX} {ρ : List Addr} {F : Hp} {st : S} {σ : St} {H : Hp} {e : Expr} {es : List Expr} {g : Ax} {pos : Pos}
/-- what a call leaves, seen from the caller -/
theorem Rel.after {ρ' : List Addr} {F' H' : Hp} {cs' : List Cell} (r : Rel G ρ F st σ H) (x : Ext ρ F ρ' F') (r' : Rel ⟨G.K, H, F, ρ⟩ ρ' F' ⟨[], cs'⟩ [] H') : Rel G ρ' F' ⟨st.env, cs'⟩ σ H' := by
  have old : ∀ a, a ∈ ρ → a ∈ G.A0 ∨ G.H0 a = none := r.own
  refine ⟨r.len, fun i d e => ?_, r'.cl, r'.cell, r'.nd, r'.fz, r'.sep, fun a o e1 e2 => ?_, fun a ha => ?_, fun a o e1 => ?_, r.old.trans x.fz, r.a0.trans x.pre⟩
  · obtain ⟨v, e1, e2⟩ := r.env i d e
    exact ⟨v, e1, e2.ext x⟩
  · refine r'.fr a o (r.fr a o e1 e2) fun z => ?_
    rcases old a z with q | q
    · exact e2 q
    · rw [q] at e1; cases e1
  · rcases r'.own a ha with q | q
    · exact old a q
    · exact .inr (r.free0 q)
  · rcases r'.new a o e1 with q | q
    · exact r.new a o q
    · exact .inr (r.free0 q)
theorem Rel.entry (r : Rel G ρ F st σ H) : Rel ⟨G.K, H, F, ρ⟩ ρ F ⟨[], st.cs⟩ [] H :=
  ⟨rfl, fun i d e => by simp at e, r.cl, r.cell, r.nd, r.fz, r.sep, fun _ _ h _ => h, fun _ h => .inl h, fun _ _ h => .inl h, Same.refl _, List.prefix_refl _⟩
def eCallAll (fn : Fn) (g : Ax) : Ex := fun st => (g st).bind fun ds c1 => fn ds c1
theorem callAll_of {fn : Fn} {ds : List D} {vs : List V} {Q : VK} {n : Nat} (r : Rel G ρ F st σ H) (rv : RVs G.K ρ F ds vs) (hn : ds.length = n) (p : Post RV G W ρ F st.env σ Q (fn ds st.cs)) : spF G.K n fn vs H Q (WE W σ) := by
  refine ⟨ρ, F, ds, st.cs, r.entry, rv, hn, ?_⟩
  cases q : fn ds st.cs with
  | ok d cs' => rw [q] at p; exact fun ρ' F' H' v x r' rv' => p ρ' F' H' v x (r.after x r') rv'
  | ex e cs' => rw [q] at p; exact fun ρ' F' H' c d x r' xa => p ρ' F' H' c d x (r.after x r') xa
  | no => rw [q] at p; exact p
/-! ### a call: the first n cells are handed on -/
/-- the cells from n on are lent as frozen lists -/
def lendD (n : Nat) (cs : List Cell) : D → D
  | .loc m => if m < n then .loc m else (match cs[m]? with
    | some (.lst ds) => .lst ds
    | _ => .loc m)
  | d => d
mutual
def noLst : D → Bool
  | .non => true
  | .bl _ => true
  | .int _ => true
  | .str _ => true
  | .tup ds => noLsts ds
  | .lst _ => false
  | .frl _ => false
  | .obj _ _ ds => noLsts ds
  | .cls _ => true
  | .loc _ => true
def noLsts : List D → Bool
  | [] => true
  | d :: r => noLst d && noLsts r
end
def noLstC : Cell → Bool
  | .lst ds => noLsts ds
  | .dk _ ds => noLsts ds
  | .ins _ _ ds => noLsts ds
/-- a call that is handed the first n cells -/
def callV (n : Nat) (fn : Fn) (ds : List D) (cs : List Cell) : Out D :=
  if n ≤ cs.length ∧ belows n (ds.map (lendD n cs)) = true ∧ (cs.take n).all (belowC n) = true then
    match fn (ds.map (lendD n cs)) (cs.take n) with
    | .ok d cs' => if cs'.length = n ∧ (belows n ds = true ∨ (noLst d = true ∧ cs'.all noLstC = true)) then .ok d (cs' ++ cs.drop n) else .no
    | .ex e cs' => if cs'.length = n ∧ (belows n ds = true ∨ (noLsts e.ds = true ∧ cs'.all noLstC = true)) then .ex e (cs' ++ cs.drop n) else .no
    | .no => .no
  else .no
/-- the heap that is lent: the lists among the cells from n on are frozen -/
def lentF (ρ : List Addr) (n : Nat) (F H : Hp) : Hp := fun a => if a ∈ ρ.drop n then (match H a with
  | some (.lst vs) => some (.lst vs)
  | _ => none) else F a
/-- .. and taken back -/
def backF (ρ : List Addr) (n : Nat) (F' : Hp) : Hp := fun a => if a ∈ ρ.drop n then none else F' a

section
variable {n : Nat} {F' H' : Hp}
theorem drop_mem {a : Addr} (h : a ∈ ρ.drop n) : a ∈ ρ := List.mem_of_mem_drop h
theorem Rel.sameLent (r : Rel G ρ F st σ H) : Same F (lentF ρ n F H) := fun a o e => by
  unfold lentF
  by_cases h : a ∈ ρ.drop n
  · rw [r.sep a (drop_mem h)] at e; cases e
  · rw [if_neg h]; exact e
theorem lent_same (r : Rel G ρ F st σ H) : Same (lentF ρ n F H) H := fun a o e => by
  unfold lentF at e
  by_cases h : a ∈ ρ.drop n
  · rw [if_pos h] at e
    cases q : H a with
    | none => rw [q] at e; cases e
    | some u =>
      rw [q] at e
      cases u <;> first | cases e <;> rfl | cases e
  · rw [if_neg h] at e
    exact r.fz a o e
theorem take_drop_ne {a : Addr} (nd : ρ.Nodup) (h1 : a ∈ ρ.take n) (h2 : a ∈ ρ.drop n) : False := by
  have := List.take_append_drop n ρ
  rw [← this] at nd
  exact (List.nodup_append.mp nd).2.2 a h1 a h2 rfl
/-- the entry of such a call -/
theorem Rel.entryN (r : Rel G ρ F st σ H) (hn : n ≤ st.cs.length) (hb : (st.cs.take n).all (belowC n) = true) : Rel ⟨G.K, H, lentF ρ n F H, ρ.take n⟩ (ρ.take n) (lentF ρ n F H) ⟨[], st.cs.take n⟩ [] H := by
  refine ⟨rfl, fun i d e => by simp at e, ?_, fun i c a e1 e2 => ?_, r.nd.sublist (List.take_sublist _ _), lent_same r, fun a ha => ?_, fun _ _ h _ => h, fun _ h => .inl h, fun _ _ h => .inl h, Same.refl _, List.prefix_refl _⟩
  · show (ρ.take n).length = (st.cs.take n).length
    rw [List.length_take, List.length_take, r.cl]
  · have e1 : (st.cs.take n)[i]? = some c := e1
    have hi : i < n := by
      have := (List.getElem?_eq_some_iff.mp e1).1
      rw [List.length_take] at this
      omega
    have q := r.cell i c a (by rw [← List.getElem?_take_of_lt hi]; exact e1) (by rw [← List.getElem?_take_of_lt hi]; exact e2)
    exact q.cut r.sameLent (List.all_eq_true.mp hb c (List.mem_of_getElem? e1))
  · unfold lentF
    rw [if_neg fun z => take_drop_ne r.nd ha z]
    exact r.sep a (List.mem_of_mem_take ha)
theorem lend_rel (r : Rel G ρ F st σ H) : ∀ {ds : List D} {vs : List V}, RVs G.K ρ F ds vs → belows n (ds.map (lendD n st.cs)) = true → RVs G.K (ρ.take n) (lentF ρ n F H) (ds.map (lendD n st.cs)) vs
  | _, _, .nil, _ => .nil
  | d :: ds, v :: vs, .cons h t, e => by
    rw [List.map_cons] at e ⊢
    simp only [belows, Bool.and_eq_true] at e
    refine .cons ?_ (lend_rel r t e.2)
    have e := e.1
    cases h with
    | @loc m a h =>
      unfold lendD at e ⊢
      simp only at e ⊢
      by_cases c : m < n
      · rw [if_pos c] at e ⊢
        exact .loc (by rw [List.getElem?_take_of_lt c]; exact h)
      · rw [if_neg c] at e ⊢
        cases q : st.cs[m]? with
        | none => simp only [q, below, decide_eq_true_eq] at e; exact absurd e c
        | some c0 =>
          cases c0 with
          | lst es =>
            simp only [q, below] at e ⊢
            obtain ⟨vs, h1, h2⟩ := r.cell m _ _ q h
            have hm : a ∈ ρ.drop n := by
              refine List.mem_of_getElem? (i := m - n) ?_
              rw [List.getElem?_drop, Nat.add_sub_cancel' (by omega)]
              exact h
            refine .lst ?_ (h2.cut r.sameLent e)
            unfold lentF
            rw [if_pos hm, h1]
          | dk _ _ => simp only [q, below, decide_eq_true_eq] at e; exact absurd e c
          | ins _ _ _ => simp only [q, below, decide_eq_true_eq] at e; exact absurd e c
    | non => exact .non
    | bl b => exact .bl b
    | int i => exact .int i
    | str x => exact .str x
    | tup h1 h2 => exact RV.cut r.sameLent (.tup h1 h2) e
    | lst h1 h2 => exact RV.cut r.sameLent (.lst h1 h2) e
    | frl h1 h2 => exact RV.cut r.sameLent (.frl h1 h2) e
    | obj h1 h2 h3 => exact RV.cut r.sameLent (.obj h1 h2 h3) e
    | cls C => exact .cls C
/-- what is frozen behind the call and is no lent list stays behind -/
theorem lent_back {Fl : Hp} (r : Rel G ρ F st σ H) (hf : ∀ a o, Fl a = some o → lentF ρ n F H a = some o ∨ H a = none) {a : Addr} {o : HO} (e : Fl a = some o) (hno : ∀ vs, o ≠ .lst vs) : backF ρ n Fl a = some o := by
  unfold backF
  by_cases h : a ∈ ρ.drop n
  · rcases hf a o e with q | q
    · unfold lentF at q
      rw [if_pos h] at q
      cases z : H a with
      | none => rw [z] at q; cases q
      | some u =>
        rw [z] at q
        cases u <;> first | (cases q; exact absurd rfl (hno _)) | cases q
    · exact absurd (drop_mem h) (r.free q)
  · rw [if_neg h]; exact e
mutual
theorem RV.lentBack {Fl : Hp} (r : Rel G ρ F st σ H) (hf : ∀ a o, Fl a = some o → lentF ρ n F H a = some o ∨ H a = none) : ∀ {d : D} {v : V}, RV G.K (ρ.take n) Fl d v → noLst d = true → RV G.K ρ (backF ρ n Fl) d v
  | _, _, .non, _ => .non
  | _, _, .bl b, _ => .bl b
  | _, _, .int i, _ => .int i
  | _, _, .str x, _ => .str x
  | _, _, .tup h t, e => .tup (by
      rcases h with (h | ⟨o, h⟩) | h
      · exact .inl (.inl (lent_back r hf h fun vs z => nomatch z))
      · exact .inl (.inr ⟨o, lent_back r hf h fun vs z => nomatch z⟩)
      · exact .inr h) (RVs.lentBack r hf t (by simpa [noLst] using e))
  | _, _, .lst _ _, e => by simp [noLst] at e
  | _, _, .frl _ _, e => by simp [noLst] at e
  | _, _, .obj h l t, e => .obj (lent_back r hf h fun vs z => nomatch z) l (RVs.lentBack r hf t (by simpa [noLst] using e))
  | _, _, .cls C, _ => .cls C
  | _, _, .loc h, _ => .loc (by
      obtain ⟨h1, h2⟩ := List.getElem?_eq_some_iff.mp h
      rw [List.length_take] at h1
      rw [List.getElem?_take_of_lt (by omega)] at h
      exact h)
theorem RVs.lentBack {Fl : Hp} (r : Rel G ρ F st σ H) (hf : ∀ a o, Fl a = some o → lentF ρ n F H a = some o ∨ H a = none) : ∀ {ds : List D} {vs : List V}, RVs G.K (ρ.take n) Fl ds vs → noLsts ds = true → RVs G.K ρ (backF ρ n Fl) ds vs
  | _, _, .nil, _ => .nil
  | _, _, .cons h t, e => by
    simp only [noLsts, Bool.and_eq_true] at e
    exact .cons (RV.lentBack r hf h e.1) (RVs.lentBack r hf t e.2)
end
theorem cellLentBack {Fl : Hp} {a : Addr} (r : Rel G ρ F st σ H) (hf : ∀ a o, Fl a = some o → lentF ρ n F H a = some o ∨ H a = none) : ∀ {c : Cell}, CellAt G.K (ρ.take n) Fl H' a c → noLstC c = true → CellAt G.K ρ (backF ρ n Fl) H' a c
  | .lst _, ⟨_, h, t⟩, e => ⟨_, h, RVs.lentBack r hf t e⟩
  | .dk _ _, ⟨_, h, l, t⟩, e => ⟨_, h, l, RVs.lentBack r hf t e⟩
  | .ins _ _ _, ⟨_, _, h, l, t⟩, e => ⟨_, _, h, l, RVs.lentBack r hf t e⟩
/-- behind the call: the caller's state again; ok: cells and value can be read without what was lent -/
theorem Rel.afterN {Fl : Hp} {ρ' : List Addr} {cs' : List Cell} (r : Rel G ρ F st σ H) (hn : n ≤ st.cs.length) (x : Ext (ρ.take n) (lentF ρ n F H) ρ' Fl) (r' : Rel ⟨G.K, H, lentF ρ n F H, ρ.take n⟩ ρ' Fl ⟨[], cs'⟩ [] H') (hl : cs'.length = n)
    (hc : ∀ c a, c ∈ cs' → CellAt G.K (ρ.take n) Fl H' a c → CellAt G.K ρ (backF ρ n Fl) H' a c) :
    ρ' = ρ.take n ∧ Ext ρ F ρ (backF ρ n Fl) ∧ Rel G ρ (backF ρ n Fl) ⟨st.env, cs' ++ st.cs.drop n⟩ σ H' := by
  have eρ : ρ' = ρ.take n := by
    obtain ⟨t, ht⟩ := x.pre
    have hlen : ρ'.length = n := by rw [show ρ'.length = cs'.length from r'.cl, hl]
    have : t = [] := by
      have := congrArg List.length ht
      rw [List.length_append, List.length_take, hlen, r.cl] at this
      exact List.length_eq_zero_iff.mp (by omega)
    rw [← ht, this, List.append_nil]
  subst eρ
  have hsF : Same F (backF ρ n Fl) := fun a o e => by
    unfold backF
    rw [if_neg fun z => by rw [r.sep a (drop_mem z)] at e; cases e]
    exact x.fz a o (r.sameLent a o e)
  have y : Ext ρ F ρ (backF ρ n Fl) := ⟨List.prefix_refl _, hsF⟩
  have hsH : Same (backF ρ n Fl) H' := fun a o e => by
    unfold backF at e
    by_cases h : a ∈ ρ.drop n
    · rw [if_pos h] at e; cases e
    · rw [if_neg h] at e
      exact r'.fz a o e
  have keepD : ∀ a ∈ ρ.drop n, H' a = H a := fun a ha => by
    obtain ⟨o, e⟩ := r.inρ (drop_mem ha)
    rw [e]
    exact r'.fr a o e fun z => take_drop_ne r.nd z ha
  refine ⟨rfl, y, ⟨r.len, fun i d e => ?_, ?_, fun i c a e1 e2 => ?_, r.nd, hsH, fun a ha => ?_, fun a o e1 e2 => ?_, r.own, fun a o e => ?_, r.old.trans hsF, r.a0⟩⟩
  · obtain ⟨v, e1, e2⟩ := r.env i d e
    exact ⟨v, e1, e2.ext y⟩
  · show ρ.length = (cs' ++ st.cs.drop n).length
    rw [List.length_append, List.length_drop, hl, r.cl]
    omega
  · have e1 : (cs' ++ st.cs.drop n)[i]? = some c := e1
    by_cases hi : i < n
    · rw [List.getElem?_append_left (by rw [hl]; exact hi)] at e1
      exact hc c a (List.mem_of_getElem? e1) (r'.cell i c a e1 (by rw [List.getElem?_take_of_lt hi]; exact e2))
    · rw [List.getElem?_append_right (by rw [hl]; omega), hl, List.getElem?_drop, Nat.add_sub_cancel' (by omega)] at e1
      have hm : a ∈ ρ.drop n := by
        refine List.mem_of_getElem? (i := i - n) ?_
        rw [List.getElem?_drop, Nat.add_sub_cancel' (by omega)]
        exact e2
      exact (r.cell i c a e1 e2).ext y (keepD a hm)
  · unfold backF
    by_cases h : a ∈ ρ.drop n
    · rw [if_pos h]
    · rw [if_neg h]
      have : a ∈ ρ.take n := by
        rw [← List.take_append_drop n ρ] at ha
        exact (List.mem_append.mp ha).resolve_right h
      exact r'.sep a this
  · refine r'.fr a o (r.fr a o e1 e2) fun z => ?_
    rcases r.own a (List.mem_of_mem_take z) with q | q
    · exact e2 q
    · rw [q] at e1; cases e1
  · unfold backF at e
    by_cases h : a ∈ ρ.drop n
    · rw [if_pos h] at e; cases e
    · rw [if_neg h] at e
      rcases r'.new a o e with q | q
      · have q : lentF ρ n F H a = some o := q
        unfold lentF at q
        rw [if_neg h] at q
        exact r.new a o q
      · exact .inr (r.free0 q)
end

section
variable {n m k : Nat} {fn : Fn} {Q : VK} {ds : List D} {vs : List V}
theorem below_cell_mono {c : Cell} {K : Kt} {ρ : List Addr} {F H : Hp} {a : Addr} (h : CellAt K (ρ.take n) F H a c) : CellAt K ρ F H a c := h.ext ⟨List.take_prefix _ _, Same.refl _⟩ rfl
theorem noLent {Fl : Hp} (r : Rel G ρ F st σ H) (hF : ∀ a ∈ ρ.drop n, Fl a = none) : backF ρ n Fl = Fl := by
  funext a
  unfold backF
  by_cases h : a ∈ ρ.drop n
  · rw [if_pos h, hF a h]
  · rw [if_neg h]
/-- nothing is lent: the entry with F itself -/
theorem Rel.entryP (r : Rel G ρ F st σ H) (hb : (st.cs.take n).all (belowC n) = true) : Rel ⟨G.K, H, F, ρ.take n⟩ (ρ.take n) F ⟨[], st.cs.take n⟩ [] H := by
  refine ⟨rfl, fun i d e => by simp at e, ?_, fun i c a e1 e2 => ?_, r.nd.sublist (List.take_sublist _ _), r.fz, fun a ha => r.sep a (List.mem_of_mem_take ha), fun _ _ h _ => h, fun _ h => .inl h, fun _ _ h => .inl h, Same.refl _, List.prefix_refl _⟩
  · show (ρ.take n).length = (st.cs.take n).length
    rw [List.length_take, List.length_take, r.cl]
  · have e1 : (st.cs.take n)[i]? = some c := e1
    have hi : i < n := by
      have := (List.getElem?_eq_some_iff.mp e1).1
      rw [List.length_take] at this
      omega
    have q := r.cell i c a (by rw [← List.getElem?_take_of_lt hi]; exact e1) (by rw [← List.getElem?_take_of_lt hi]; exact e2)
    exact q.cut (Same.refl _) (List.all_eq_true.mp hb c (List.mem_of_getElem? e1))
theorem lend_below : ∀ {ds : List D} {cs : List Cell}, belows n ds = true → ds.map (lendD n cs) = ds
  | [], _, _ => rfl
  | d :: ds, cs, e => by
    simp only [belows, Bool.and_eq_true] at e
    rw [List.map_cons, lend_below e.2]
    congr 1
    cases d with
    | loc m =>
      have h := e.1
      simp only [below, decide_eq_true_eq] at h
      unfold lendD
      simp only [h, if_true]
    | _ => rfl
theorem Rel.afterP {Fl : Hp} {ρ' : List Addr} {cs' : List Cell} {H' : Hp} (r : Rel G ρ F st σ H) (hn : n ≤ st.cs.length) (x : Ext (ρ.take n) F ρ' Fl) (r' : Rel ⟨G.K, H, F, ρ.take n⟩ ρ' Fl ⟨[], cs'⟩ [] H') (hl : cs'.length = n) :
    ρ' = ρ.take n ∧ Ext ρ F ρ Fl ∧ Rel G ρ Fl ⟨st.env, cs' ++ st.cs.drop n⟩ σ H' := by
  have eρ : ρ' = ρ.take n := by
    obtain ⟨t, ht⟩ := x.pre
    have hlen : ρ'.length = n := by rw [show ρ'.length = cs'.length from r'.cl, hl]
    have : t = [] := by
      have := congrArg List.length ht
      rw [List.length_append, List.length_take, hlen, r.cl] at this
      exact List.length_eq_zero_iff.mp (by omega)
    rw [← ht, this, List.append_nil]
  subst eρ
  have y : Ext ρ F ρ Fl := ⟨List.prefix_refl _, x.fz⟩
  have keepD : ∀ a ∈ ρ.drop n, H' a = H a := fun a ha => by
    obtain ⟨o, e⟩ := r.inρ (drop_mem ha)
    rw [e]
    exact r'.fr a o e fun z => take_drop_ne r.nd z ha
  refine ⟨rfl, y, ⟨r.len, fun i d e => ?_, ?_, fun i c a e1 e2 => ?_, r.nd, r'.fz, fun a ha => ?_, fun a o e1 e2 => ?_, r.own, fun a o e => ?_, r.old.trans x.fz, r.a0⟩⟩
  · obtain ⟨v, e1, e2⟩ := r.env i d e
    exact ⟨v, e1, e2.ext y⟩
  · show ρ.length = (cs' ++ st.cs.drop n).length
    rw [List.length_append, List.length_drop, hl, r.cl]
    omega
  · have e1 : (cs' ++ st.cs.drop n)[i]? = some c := e1
    by_cases hi : i < n
    · rw [List.getElem?_append_left (by rw [hl]; exact hi)] at e1
      exact below_cell_mono (r'.cell i c a e1 (by rw [List.getElem?_take_of_lt hi]; exact e2))
    · rw [List.getElem?_append_right (by rw [hl]; omega), hl, List.getElem?_drop, Nat.add_sub_cancel' (by omega)] at e1
      have hm : a ∈ ρ.drop n := by
        refine List.mem_of_getElem? (i := i - n) ?_
        rw [List.getElem?_drop, Nat.add_sub_cancel' (by omega)]
        exact e2
      exact (r.cell i c a e1 e2).ext y (keepD a hm)
  · cases q : Fl a with
    | none => rfl
    | some o =>
      rcases r'.new a o q with z | z
      · have z : F a = some o := z
        rw [r.sep a ha] at z; cases z
      · exact absurd ha (r.free z)
  · refine r'.fr a o (r.fr a o e1 e2) fun z => ?_
    rcases r.own a (List.mem_of_mem_take z) with q | q
    · exact e2 q
    · rw [q] at e1; cases e1
  · rcases r'.new a o e with q | q
    · exact r.new a o q
    · exact .inr (r.free0 q)
theorem callV_of (r : Rel G ρ F st σ H) (rv : RVs G.K ρ F ds vs) (hm : ds.length = m) (p : Post RV G W ρ F st.env σ Q (callV n fn ds st.cs)) : spF G.K m fn vs H Q (WE W σ) := by
  unfold callV at p
  by_cases c : n ≤ st.cs.length ∧ belows n (ds.map (lendD n st.cs)) = true ∧ (st.cs.take n).all (belowC n) = true
  · rw [if_pos c] at p
    obtain ⟨hn, hb, hc⟩ := c
    by_cases hbe : belows n ds = true
    · rw [lend_below hbe] at p
      refine ⟨ρ.take n, F, ds, st.cs.take n, r.entryP hc, rv.cut (Same.refl _) hbe, hm, ?_⟩
      cases q : fn ds (st.cs.take n) with
      | no => rw [q] at p; exact p
      | ok d cs' =>
        rw [q] at p
        by_cases hl : cs'.length = n
        · simp only [hl, hbe, true_and, true_or, if_true] at p
          intro ρ' F' H' v x r' rv'
          obtain ⟨e, y, r2⟩ := r.afterP hn x r' hl
          subst e
          exact p ρ F' H' v y r2 (rv'.ext ⟨List.take_prefix _ _, Same.refl _⟩)
        · simp only [hl, false_and, if_false] at p
          exact p.elim
      | ex e cs' =>
        rw [q] at p
        by_cases hl : cs'.length = n
        · simp only [hl, hbe, true_and, true_or, if_true] at p
          intro ρ' F' H' cls dx x r' xa
          obtain ⟨e, y, r2⟩ := r.afterP hn x r' hl
          subst e
          obtain ⟨x1, x2, x3, x4, x5, x6, x7⟩ := xa
          exact p ρ F' H' cls dx y r2 ⟨x1, x2, x3, x4, x5, x6, x7.ext ⟨List.take_prefix _ _, Same.refl _⟩⟩
        · simp only [hl, false_and, if_false] at p
          exact p.elim
    · refine ⟨ρ.take n, lentF ρ n F H, ds.map (lendD n st.cs), st.cs.take n, r.entryN hn hc, lend_rel r rv hb, by rw [List.length_map]; exact hm, ?_⟩
      cases q : fn (ds.map (lendD n st.cs)) (st.cs.take n) with
      | no => rw [q] at p; exact p
      | ok d cs' =>
        rw [q] at p
        have p : Post RV G W ρ F st.env σ Q (if cs'.length = n ∧ (belows n ds = true ∨ (noLst d = true ∧ cs'.all noLstC = true)) then .ok d (cs' ++ st.cs.drop n) else .no) := p
        by_cases hl : cs'.length = n ∧ noLst d = true ∧ cs'.all noLstC = true
        · simp only [hl, hbe, true_and, and_self, or_true, if_true] at p
          intro ρ' F' H' v x r' rv'
          have hf : ∀ a o, F' a = some o → lentF ρ n F H a = some o ∨ H a = none := r'.new
          obtain ⟨e, y, r2⟩ := r.afterN hn x r' hl.1 fun c a hc2 h2 => cellLentBack r hf h2 (List.all_eq_true.mp hl.2.2 c hc2)
          subst e
          exact p ρ _ H' v y r2 (RV.lentBack r hf rv' hl.2.1)
        · rw [if_neg (by rintro ⟨z1, z2⟩; exact hl ⟨z1, z2.resolve_left hbe⟩)] at p
          exact p.elim
      | ex e cs' =>
        rw [q] at p
        have p : Post RV G W ρ F st.env σ Q (if cs'.length = n ∧ (belows n ds = true ∨ (noLsts e.ds = true ∧ cs'.all noLstC = true)) then .ex e (cs' ++ st.cs.drop n) else .no) := p
        by_cases hl : cs'.length = n ∧ noLsts e.ds = true ∧ cs'.all noLstC = true
        · simp only [hl, hbe, true_and, and_self, or_true, if_true] at p
          intro ρ' F' H' cls dx x r' xa
          have hf : ∀ a o, F' a = some o → lentF ρ n F H a = some o ∨ H a = none := r'.new
          obtain ⟨e', y, r2⟩ := r.afterN hn x r' hl.1 fun c a hc2 h2 => cellLentBack r hf h2 (List.all_eq_true.mp hl.2.2 c hc2)
          subst e'
          obtain ⟨x1, x2, x3, x4, x5, x6, x7⟩ := xa
          exact p ρ _ H' cls dx y r2 ⟨x1, x2, x3, x4, lent_back r hf x5 (fun vs z => nomatch z), x6, RVs.lentBack r hf x7 hl.2.1⟩
        · rw [if_neg (by rintro ⟨z1, z2⟩; exact hl ⟨z1, z2.resolve_left hbe⟩)] at p
          exact p.elim
  · rw [if_neg c] at p
    exact p.elim
/-- f(..) -/
def eCall (n : Nat) (fn : Fn) (g : Ax) : Ex := fun st => (g st).bind fun ds c1 => callV n fn ds c1
variable {f : Addr} {fd : FuncData} {ps : List Str} {x : Str} {p : Pos}
theorem de_call {n : Nat} (hK : G.K.K = X.K) (tk : Takes X W) (hF : FnOk X.prog X.w X.K X.mg X.base (L2.CX X.prog X.w) k f fd ps (spF G.K ps.length fn)) (hr : Room k X.A) (hg : Gl X x) (hm : X.mg x = some (.ref f)) (hk : PySem.W.keepIn X.K (.ref f) = true) (hb : Binds X.K fd ps [])
    (ha : PA X (e :: es) (tAs G W g)) (hlen : ∀ st ds c1, g st = .ok ds c1 → ds.length = ps.length) (hdb : (x == ("__debug__" : Str)) = false := by decide) (he : starEach (e :: es) X.env = (false, eval e X.env) :: starEach es X.env := by rfl) (hpl : (backTo pos (starEach es X.env)).any (·.1) = false := by rfl) :
    PE X (.Call (.Name x p) (e :: es) [] pos) (tE G W (eCall n fn g)) :=
  (pe_callS hF hr hg hm hk hb (fun σ => passAt tk σ) ha hdb he hpl).impV fun σ H Q ⟨ρ, F, st, r, p⟩ => by
    unfold eCall at p
    cases q : g st with
    | no => rw [q] at p; exact p.elim
    | ex e' cs => rw [q] at p; exact ⟨ρ, F, st, r, by rw [q]; exact p⟩
    | ok ds c1 =>
      rw [q] at p
      have p : Post RV G W ρ F st.env σ Q (callV n fn ds c1) := p
      refine ⟨ρ, F, st, r, ?_⟩
      rw [q]
      exact fun ρ1 F1 H1 vs x1 r1 rv1 => callV_of (st := ⟨st.env, c1⟩) r1 rv1 (hlen _ _ _ q) (Post.ext x1 p)
theorem de_callAll (hK : G.K.K = X.K) (tk : Takes X W) (hF : FnOk X.prog X.w X.K X.mg X.base (L2.CX X.prog X.w) k f fd ps (spF G.K ps.length fn)) (hr : Room k X.A) (hg : Gl X x) (hm : X.mg x = some (.ref f)) (hk : PySem.W.keepIn X.K (.ref f) = true) (hb : Binds X.K fd ps [])
    (ha : PA X (e :: es) (tAs G W g)) (hlen : ∀ st ds c1, g st = .ok ds c1 → ds.length = ps.length) (hdb : (x == ("__debug__" : Str)) = false := by decide) (he : starEach (e :: es) X.env = (false, eval e X.env) :: starEach es X.env := by rfl) (hpl : (backTo pos (starEach es X.env)).any (·.1) = false := by rfl) :
    PE X (.Call (.Name x p) (e :: es) [] pos) (tE G W (eCallAll fn g)) :=
  (pe_callS hF hr hg hm hk hb (fun σ => passAt tk σ) ha hdb he hpl).impV fun σ H Q ⟨ρ, F, st, r, p⟩ => by
    unfold eCallAll at p
    cases q : g st with
    | no => rw [q] at p; exact p.elim
    | ex e' cs => rw [q] at p; exact ⟨ρ, F, st, r, by rw [q]; exact p⟩
    | ok ds c1 =>
      rw [q] at p
      have p : Post RV G W ρ F st.env σ Q (fn ds c1) := p
      refine ⟨ρ, F, st, r, ?_⟩
      rw [q]
      exact fun ρ1 F1 H1 vs x1 r1 rv1 => callAll_of (st := ⟨st.env, c1⟩) r1 rv1 (hlen _ _ _ q) (Post.ext x1 p)
end
end
end VL

namespace VL
open PySem L2
/-! ### a def's own cells left behind -/
/-- what leaves the def: an own list, opened -/
def outD (n : Nat) (cs : List Cell) (d : D) : Option D := match d with
  | .loc m => if m < n then some (.loc m) else (match cs[m]? with
    | some (.lst ds) => if belows n ds then some (.lst ds) else none
    | _ => none)
  | d => if below n d then some d else none
def trimF (fn : Fn) : Fn := fun ds cs => match fn ds cs with
  | .ok d cs' => if (cs'.take cs.length).all (belowC cs.length) then (match outD cs.length cs' d with
    | some d' => .ok d' (cs'.take cs.length)
    | none => .no) else .no
  | .ex e cs' => if (cs'.take cs.length).all (belowC cs.length) && belows cs.length e.ds then .ex e (cs'.take cs.length) else .no
  | .no => .no
/-- the cells behind n become frozen -/
theorem Rel.trim {G : Gx} {ρ : List Addr} {F : Hp} {st : S} {σ : St} {H : Hp} (r : Rel G ρ F st σ H) (hn : G.A0.length ≤ st.cs.length) (hb : (st.cs.take G.A0.length).all (belowC G.A0.length) = true) (x : Ext G.A0 G.F0 ρ F) :
    Same F (lentF ρ G.A0.length F H) ∧ Ext G.A0 G.F0 G.A0 (lentF ρ G.A0.length F H) ∧ Rel G G.A0 (lentF ρ G.A0.length F H) ⟨[], st.cs.take G.A0.length⟩ [] H := by
  have eρ : ρ.take G.A0.length = G.A0 := by
    obtain ⟨t, ht⟩ := x.pre
    rw [← ht, List.take_left]
  have hs := r.sameLent (n := G.A0.length)
  have e := r.entryN hn hb
  refine ⟨hs, ⟨List.prefix_refl _, x.fz.trans hs⟩, ⟨rfl, fun i d e => by simp at e, ?_, fun i c a e1 e2 => ?_, ?_, e.fz, fun a ha => ?_, r.fr, fun a ha => .inl ha, fun a o q => ?_, x.fz.trans hs, List.prefix_refl _⟩⟩
  · have := e.cl
    rw [eρ] at this
    exact this
  · have := e.cell i c a e1 (by rw [eρ]; exact e2)
    rw [eρ] at this
    exact this
  · have := e.nd
    rw [eρ] at this
    exact this
  · exact e.sep a (by rw [eρ]; exact ha)
  · unfold lentF at q
    by_cases h : a ∈ ρ.drop G.A0.length
    · rcases r.own a (drop_mem h) with z | z
      · exact (take_drop_ne r.nd (by rw [eρ]; exact z) h).elim
      · exact .inr z
    · rw [if_neg h] at q
      exact r.new a o q
theorem trim_of {K : Kt} {n : Nat} {fn : Fn} (vs : List V) (H : Hp) (Q : VK) (E : XK) (h : spF K n (trimF fn) vs H Q E) : spF K n fn vs H Q E := by
  obtain ⟨ρ0, F0, ds, cs, r, rv, hl, p⟩ := h
  refine ⟨ρ0, F0, ds, cs, r, rv, hl, ?_⟩
  have hc : ρ0.length = cs.length := r.cl
  unfold trimF at p
  cases q : fn ds cs with
  | no => rw [q] at p; exact p
  | ex e cs' =>
    rw [q] at p
    simp only at p
    by_cases c : ((cs'.take cs.length).all (belowC cs.length) && belows cs.length e.ds) = true
    · rw [if_pos c] at p
      rw [Bool.and_eq_true] at c
      intro ρ F H' cls dx x r' xa
      have hle : ρ0.length ≤ cs'.length := by
        have := x.pre.length_le
        rw [show ρ.length = cs'.length from r'.cl] at this
        exact this
      obtain ⟨s1, x1, r1⟩ := r'.trim hle (by show (cs'.take ρ0.length).all (belowC ρ0.length) = true; rw [hc]; exact c.1) x
      obtain ⟨y1, y2, y3, y4, y5, y6, y7⟩ := xa
      have eρ : ρ.take cs.length = ρ0 := by
        obtain ⟨t, ht⟩ := x.pre
        have ht : ρ0 ++ t = ρ := ht
        rw [← ht, ← hc, List.take_left]
      have q7 := y7.cut (n := cs.length) s1 c.2
      rw [eρ] at q7
      refine p ρ0 _ H' cls dx x1 ?_ ⟨y1, y2, y3, y4, s1 _ _ y5, y6, q7⟩
      rw [← hc]; exact r1
    · rw [if_neg c] at p
      exact p.elim
  | ok d cs' =>
    rw [q] at p
    simp only at p
    by_cases c : (cs'.take cs.length).all (belowC cs.length) = true
    · rw [if_pos c] at p
      cases q2 : outD cs.length cs' d with
      | none => rw [q2] at p; exact p.elim
      | some d' =>
        rw [q2] at p
        simp only at p
        intro ρ F H' v x r' rv'
        have hle : ρ0.length ≤ cs'.length := by
          have := x.pre.length_le
          rw [show ρ.length = cs'.length from r'.cl] at this
          exact this
        obtain ⟨s1, x1, r1⟩ := r'.trim hle (by show (cs'.take ρ0.length).all (belowC ρ0.length) = true; rw [hc]; exact c) x
        have eρ : ρ.take cs.length = ρ0 := by
          obtain ⟨t, ht⟩ := x.pre
          have ht : ρ0 ++ t = ρ := ht
          rw [← ht, ← hc, List.take_left]
        have r1' : Rel ⟨K, H, F0, ρ0⟩ ρ0 (lentF ρ ρ0.length F H') ⟨[], cs'.take cs.length⟩ [] H' := by rw [← hc]; exact r1
        refine p ρ0 _ H' v x1 r1' ?_
        have low : below cs.length d = true → d' = d → RV K ρ0 (lentF ρ ρ0.length F H') d' v := fun hb e => by
          subst e
          have := rv'.cut (n := cs.length) s1 hb
          rw [eρ] at this
          exact this
        cases d with
        | loc m =>
          unfold outD at q2
          simp only at q2
          by_cases hm : m < cs.length
          · rw [if_pos hm] at q2
            exact low (by simp [below, hm]) (Option.some.inj q2).symm
          · rw [if_neg hm] at q2
            cases q3 : cs'[m]? with
            | none => rw [q3] at q2; cases q2
            | some c0 =>
              rw [q3] at q2
              cases c0 with
              | lst es =>
                simp only at q2
                by_cases hb : belows cs.length es = true
                · rw [if_pos hb] at q2
                  cases q2
                  cases rv' with
                  | @loc _ a h =>
                    obtain ⟨ws, h1, h2⟩ := r'.cell m _ _ q3 h
                    have hmem : a ∈ ρ.drop ρ0.length := by
                      refine List.mem_of_getElem? (i := m - ρ0.length) ?_
                      rw [List.getElem?_drop, Nat.add_sub_cancel' (by omega)]
                      exact h
                    have q7 := h2.cut (n := cs.length) s1 hb
                    rw [eρ] at q7
                    refine .lst ?_ q7
                    unfold lentF
                    rw [if_pos hmem, h1]
                · rw [if_neg hb] at q2
                  cases q2
              | dk _ _ => cases q2
              | ins _ _ _ => cases q2
        | _ =>
          unfold outD at q2
          simp only at q2
          split at q2
          · rename_i hb
            exact low hb (Option.some.inj q2).symm
          · cases q2
    · rw [if_neg c] at p
      exact p.elim
/-- another plain function: wherever it says something, fn says the same -/
theorem spF_ref {K : Kt} {n : Nat} {fn fn' : Fn} (hr : ∀ ds cs, fn' ds cs ≠ .no → fn ds cs = fn' ds cs) (vs : List V) (H : Hp) (Q : VK) (E : XK) (h : spF K n fn' vs H Q E) : spF K n fn vs H Q E := by
  obtain ⟨ρ0, F0, ds, cs, r, rv, hl, p⟩ := h
  refine ⟨ρ0, F0, ds, cs, r, rv, hl, ?_⟩
  by_cases c : fn' ds cs = .no
  · rw [c] at p; exact p.elim
  · rw [hr ds cs c]; exact p
section
variable {P : Program} {w : World} {K : Kt} {mg : Str → Option Value} {base : Heap} {CX : CXT} {k : Nat} {f : Addr} {fd : FuncData} {ps : List Str} {fn fn' : Fn} {n : Nat}
theorem fnTrim (F : FnOk P w K.K mg base CX k f fd ps (spF K n fn)) : FnOk P w K.K mg base CX k f fd ps (spF K n (trimF fn)) := F.imp trim_of
theorem fnRef (F : FnOk P w K.K mg base CX k f fd ps (spF K n fn)) (hr : ∀ ds cs, fn' ds cs ≠ .no → fn ds cs = fn' ds cs) : FnOk P w K.K mg base CX k f fd ps (spF K n fn') := F.imp (spF_ref hr)
end
/-! ### built-ins -/
section
variable {X : Cx} {G : Gx} {W : WX} {e a : Expr} {es : List Expr} {g : Ax} {pos p : Pos} {fa : Ex}
abbrev FB := List Cell → List D → Out D
def VN (G : Gx) (W : WX) (r : List V → Hp → VK → Prop) (h : FB) : Prop := ∀ (ρ : List Addr) (F : Hp) (st : S) (σ : St) (H : Hp) (ds : List D) (vs : List V) (Q : VK), Rel G ρ F st σ H → RVs G.K ρ F ds vs → Post RV G W ρ F st.env σ Q (h st.cs ds) → r vs H Q
def eB (h : FB) (g : Ax) : Ex := fun st => (g st).bind fun ds c1 => h c1 ds
theorem tCB_of {r : List V → Hp → VK → Prop} {h : FB} (hv : VN G W r h) : ∀ σ H Q, tE G W (eB h g) σ H Q → tCB r (tAs G W g) σ H Q := fun σ H Q ⟨ρ, F, st, r, p⟩ =>
  seqX r p fun ρ1 F1 H1 ds c1 vs x1 r1 rv1 p1 => hv ρ1 F1 ⟨st.env, c1⟩ σ H1 ds vs Q r1 rv1 p1
theorem de_callB {id : String} {x : Str} {r : List V → Hp → VK → Prop} {h : FB} (hc : CallR X (.builtin id) r) (hv : VN G W r h) (hg : Gl X x) (hm : X.mg x = none) (hb : bootBuiltins x = some (.builtin id)) (ha : PA X (e :: es) (tAs G W g)) (hn : x ≠ "__name__" := by decide) (hdb : (x == ("__debug__" : Str)) = false := by decide)
    (he : starEach (e :: es) X.env = (false, eval e X.env) :: starEach es X.env := by rfl) (hpl : (backTo pos (starEach es X.env)).any (·.1) = false := by rfl) : PE X (.Call (.Name x p) (e :: es) [] pos) (tE G W (eB h g)) := (pe_callB hc hg hm hb ha hn hdb he hpl).impV (tCB_of hv)
theorem de_callTy {T : String} {x : Str} {r : List V → Hp → VK → Prop} {h : FB} (hc : CallR X (.type T) r) (hv : VN G W r h) (hg : Gl X x) (hm : X.mg x = none) (hb : bootBuiltins x = some (.type T)) (ha : PA X (e :: es) (tAs G W g)) (hn : x ≠ "__name__" := by decide) (hdb : (x == ("__debug__" : Str)) = false := by decide)
    (he : starEach (e :: es) X.env = (false, eval e X.env) :: starEach es X.env := by rfl) (hpl : (backTo pos (starEach es X.env)).any (·.1) = false := by rfl) : PE X (.Call (.Name x p) (e :: es) [] pos) (tE G W (eB h g)) := (pe_callTy hc hg hm hb ha hn hdb he hpl).impV (tCB_of hv)
def hLen : FB := fun cs ds => match ds with
  | [.str z] => if z.length ≤ 16777216 then .ok (.int (z.length : Nat)) cs else .no
  | [d] => (match seqOf cs d with
    | some xs => .ok (.int (xs.length : Nat)) cs
    | none => .no)
  | _ => .no
theorem vn_len : VN G W (fun xs H Q => ∃ x n, xs = [x] ∧ LenV G.K.K x H n ∧ Q (.int n) H) hLen := by
  intro ρ F st σ H ds vs Q r rv p
  unfold hLen at p
  split at p
  · cases rv with
    | cons h1 h2 =>
      cases h2
      cases h1
      rename_i z
      by_cases c : z.length ≤ 16777216
      · rw [if_pos c] at p
        exact ⟨_, _, rfl, ⟨line_of c, rfl⟩, p.here r (.int _)⟩
      · rw [if_neg c] at p
        exact p.elim
  · rename_i d _
    cases rv with
    | cons h1 h2 =>
      cases h2
      cases q : seqOf st.cs d with
      | none => rw [q] at p; exact p.elim
      | some xs =>
        rw [q] at p
        obtain ⟨a2, ws, rfl, s2, r2⟩ := seq_read r h1 q
        refine ⟨_, ws.length, rfl, ?_, ?_⟩
        · rcases s2 with s2 | s2
          · exact .inl ⟨ws, s2, rfl⟩
          · exact .inr ⟨ws, s2, rfl⟩
        · rw [← r2.length]
          exact p.here r (.int _)
  · exact p.elim
theorem de_len (hK : X.K = G.K.K) (hg : Gl X "len") (hm : X.mg "len" = none) (ha : PA X (e :: es) (tAs G W g)) (he : starEach (e :: es) X.env = (false, eval e X.env) :: starEach es X.env := by rfl) (hpl : (backTo pos (starEach es X.env)).any (·.1) = false := by rfl) : PE X (.Call (.Name "len" p) (e :: es) [] pos) (tE G W (eB hLen g)) :=
  de_callB call_len (by rw [hK]; exact vn_len) hg hm PySem.boot_len ha (he := he) (hpl := hpl)
def hInt : FB := fun cs ds => match ds with
  | [.int i] => .ok (.int i) cs
  | [.bl b] => .ok (.int (if b then 1 else 0)) cs
  | _ => .no
theorem de_int1 (hg : Gl X "int") (hm : X.mg "int" = none) (ha : PA X (e :: es) (tAs G W g)) (he : starEach (e :: es) X.env = (false, eval e X.env) :: starEach es X.env := by rfl) (hpl : (backTo pos (starEach es X.env)).any (·.1) = false := by rfl) : PE X (.Call (.Name "int" p) (e :: es) [] pos) (tE G W (eB hInt g)) :=
  de_callTy call_int1 (by
    intro ρ F st σ H ds vs Q r rv p
    unfold hInt at p
    split at p
    · cases rv with
      | cons h1 h2 =>
        cases h2
        cases h1
        exact .inl ⟨_, rfl, p.here r (.int _)⟩
    · cases rv with
      | cons h1 h2 =>
        cases h2
        cases h1
        exact .inr ⟨_, rfl, p.here r (.int _)⟩
    · exact p.elim) hg hm (by decide +kernel) ha (he := he) (hpl := hpl)
def hAbs : FB := fun cs ds => match ds with
  | [.int i] => .ok (.int (if i < 0 then -i else i)) cs
  | _ => .no
theorem de_abs (hg : Gl X "abs") (hm : X.mg "abs" = none) (ha : PA X (e :: es) (tAs G W g)) (he : starEach (e :: es) X.env = (false, eval e X.env) :: starEach es X.env := by rfl) (hpl : (backTo pos (starEach es X.env)).any (·.1) = false := by rfl) : PE X (.Call (.Name "abs" p) (e :: es) [] pos) (tE G W (eB hAbs g)) :=
  de_callB call_abs (by
    intro ρ F st σ H ds vs Q r rv p
    unfold hAbs at p
    split at p
    · cases rv with
      | cons h1 h2 =>
        cases h2
        cases h1
        exact ⟨_, rfl, p.here r (.int _)⟩
    · exact p.elim) hg hm (by decide +kernel) ha (he := he) (hpl := hpl)
def hTuple : FB := fun cs ds => match ds with
  | [.tup xs] => .ok (.tup xs) cs
  | [d] => (match lstOf cs d with
    | some xs => .ok (.tup xs) cs
    | none => .no)
  | _ => .no
theorem vn_tuple : VN G W (fun xs H Q => ∃ p ys, xs = [.ref p] ∧ ((SqL G.K.K H p ys ∧ ∀ l, H l = none → Q (.ref l) (upd H l (.tup ys))) ∨ (SqT G.K.K H p ys ∧ Q (.ref p) H))) hTuple := by
  intro ρ F st σ H ds vs Q r rv p
  unfold hTuple at p
  split at p
  · cases rv with
    | cons h1 h2 =>
      cases h2
      obtain ⟨a2, ws, rfl, s2, r2⟩ := tup_read r h1 rfl
      exact ⟨a2, ws, rfl, .inr ⟨s2, p.here r h1⟩⟩
  · rename_i d _
    cases rv with
    | cons h1 h2 =>
      cases h2
      cases q : lstOf st.cs d with
      | none => rw [q] at p; exact p.elim
      | some xs =>
        rw [q] at p
        obtain ⟨a2, ws, rfl, s2, r2⟩ := lst_read r h1 q
        refine ⟨a2, ws, rfl, .inl ⟨s2, fun l hl => ?_⟩⟩
        obtain ⟨x2, r3⟩ := r.fresh (o := .tup ws) hl
        exact p _ _ _ _ x2 r3 (.tup (SqT.of upd_same) (r2.ext x2))
  · exact p.elim
theorem de_tuple1 (hK : X.K = G.K.K) (hg : Gl X "tuple") (hm : X.mg "tuple" = none) (ha : PA X (e :: es) (tAs G W g)) (he : starEach (e :: es) X.env = (false, eval e X.env) :: starEach es X.env := by rfl) (hpl : (backTo pos (starEach es X.env)).any (·.1) = false := by rfl) : PE X (.Call (.Name "tuple" p) (e :: es) [] pos) (tE G W (eB hTuple g)) :=
  de_callTy call_tuple_of (by rw [hK]; exact vn_tuple) hg hm (by decide +kernel) ha (he := he) (hpl := hpl)
/-- list(x): frozen, or an own cell -/
def hList (own : Bool) : FB := fun cs ds => match ds with
  | [d] => (match seqOf cs d with
    | some xs => if own then newCell xs cs else .ok (.lst xs) cs
    | none => .no)
  | _ => .no
theorem vn_list {own : Bool} : VN G W (fun xs H Q => ∃ p ys, xs = [.ref p] ∧ (SqL G.K.K H p ys ∨ SqT G.K.K H p ys) ∧ ∀ l, H l = none → Q (.ref l) (upd H l (.lst ys))) (hList own) := by
  intro ρ F st σ H ds vs Q r rv p
  unfold hList at p
  split at p
  · rename_i d
    cases rv with
    | cons h1 h2 =>
      cases h2
      cases q : seqOf st.cs d with
      | none => rw [q] at p; exact p.elim
      | some xs =>
        rw [q] at p
        obtain ⟨a2, ws, rfl, s2, r2⟩ := seq_read r h1 q
        refine ⟨a2, ws, rfl, s2, fun l hl => ?_⟩
        cases own with
        | true => exact newCell_of r r2 hl p
        | false =>
          obtain ⟨x2, r3⟩ := r.fresh (o := .lst ws) hl
          exact p _ _ _ _ x2 r3 (.lst upd_same (r2.ext x2))
  · exact p.elim
theorem de_list1 (own : Bool) (hK : X.K = G.K.K) (hg : Gl X "list") (hm : X.mg "list" = none) (ha : PA X (e :: es) (tAs G W g)) (he : starEach (e :: es) X.env = (false, eval e X.env) :: starEach es X.env := by rfl) (hpl : (backTo pos (starEach es X.env)).any (·.1) = false := by rfl) : PE X (.Call (.Name "list" p) (e :: es) [] pos) (tE G W (eB (hList own) g)) :=
  de_callTy call_list_of (by rw [hK]; exact vn_list) hg hm (by decide +kernel) ha (he := he) (hpl := hpl)
/-! ints of a list -/
def intsOf : List D → Option (List Int)
  | [] => some []
  | .int i :: r => (intsOf r).map (i :: ·)
  | _ => none
theorem ints_rel {K : Kt} {ρ : List Addr} {F : Hp} : ∀ {ds : List D} {vs : List V} {ns : List Int}, RVs K ρ F ds vs → intsOf ds = some ns → vs = ns.map V.int
  | _, _, _, .nil, e => by cases e; rfl
  | _, _, _, @RVs.cons _ _ _ d ds v vs h r, e => by
    cases h with
    | int i =>
      unfold intsOf at e
      cases q : intsOf ds with
      | none => rw [q] at e; cases e
      | some l =>
        rw [q] at e
        cases e
        rw [ints_rel r q]
        rfl
    | _ => cases e
theorem ints_back {K : Kt} {ρ : List Addr} {F : Hp} : ∀ (ns : List Int), RVs K ρ F (ns.map D.int) (ns.map V.int)
  | [] => .nil
  | n :: r => .cons (.int n) (ints_back r)
def maxI : List Int → Int
  | [] => 0
  | [a] => a
  | a :: b :: r => max a (maxI (b :: r))
theorem maxI_mem : ∀ {l : List Int}, l ≠ [] → maxI l ∈ l ∧ ∀ y ∈ l, y ≤ maxI l
  | [], h => absurd rfl h
  | [a], _ => ⟨List.mem_singleton.mpr rfl, fun y hy => by rw [List.mem_singleton.mp hy]; exact Int.le_refl _⟩
  | a :: b :: r, _ => by
    obtain ⟨h1, h2⟩ := maxI_mem (l := b :: r) (by simp)
    unfold maxI
    refine ⟨?_, fun y hy => ?_⟩
    · by_cases c : a ≤ maxI (b :: r)
      · rw [Int.max_eq_right c]; exact List.mem_cons_of_mem _ h1
      · rw [Int.max_eq_left (by omega)]; exact List.mem_cons_self
    · rcases List.mem_cons.mp hy with rfl | hy
      · omega
      · have := h2 y hy
        omega
/-- max(xs), max(a, b) -/
def hMax : FB := fun cs ds => match ds with
  | [.int i, .int j] => .ok (.int (if j > i then j else i)) cs
  | [d] => (match lstOf cs d with
    | some xs => (match intsOf xs with
      | some ns => if ns.isEmpty then .no else .ok (.int (maxI ns)) cs
      | none => .no)
    | none => .no)
  | _ => .no
theorem max_uniq {l : List Int} {m : Int} (h : l ≠ []) (h1 : m ∈ l) (h2 : ∀ y ∈ l, y ≤ m) : m = maxI l := by
  obtain ⟨h3, h4⟩ := maxI_mem h
  have := h4 m h1
  have := h2 _ h3
  omega
theorem de_max (hK : X.K = G.K.K) (hc : X.calm = true) (hg : Gl X "max") (hm : X.mg "max" = none) (ha : PA X (e :: es) (tAs G W g)) (he : starEach (e :: es) X.env = (false, eval e X.env) :: starEach es X.env := by rfl) (hpl : (backTo pos (starEach es X.env)).any (·.1) = false := by rfl) : PE X (.Call (.Name "max" p) (e :: es) [] pos) (tE G W (eB hMax g)) :=
  de_callB (CallR.or (call_max2 hc) (cr_max hc)) (by
    rw [hK]
    intro ρ F st σ H ds vs Q r rv p
    cases rv with
    | nil => exact p.elim
    | @cons d _ v _ h1 h2 =>
      cases h2 with
      | nil =>
        have p : Post RV G W ρ F st.env σ Q (match lstOf st.cs d with
          | some xs => (match intsOf xs with
            | some ns => if ns.isEmpty then .no else .ok (.int (maxI ns)) st.cs
            | none => .no)
          | none => .no) := by cases d <;> exact p
        cases q : lstOf st.cs d with
        | none => rw [q] at p; exact p.elim
        | some xs =>
          rw [q] at p
          simp only at p
          obtain ⟨a2, ws, rfl, s2, r2⟩ := lst_read r h1 q
          cases q2 : intsOf xs with
          | none => rw [q2] at p; exact p.elim
          | some ns =>
            rw [q2] at p
            simp only at p
            have e := ints_rel r2 q2
            subst e
            cases ns with
            | nil => exact p.elim
            | cons n0 nr =>
              refine .inr ⟨a2, n0 :: nr, rfl, s2, by simp, fun m h1 h2 => ?_⟩
              rw [max_uniq (by simp) h1 h2]
              exact p.here r (.int _)
      | @cons d2 _ _ _ h2 h3 =>
        cases h3 with
        | cons _ _ => exact (by unfold hMax at p; split at p <;> first | (rename_i z; cases z) | exact p.elim)
        | nil =>
          unfold hMax at p
          split at p
          · rename_i e
            cases e
            cases h1
            cases h2
            exact .inl ⟨_, _, rfl, p.here r (.int _)⟩
          · rename_i e
            cases e
          · exact p.elim) hg hm (by decide +kernel) ha (he := he) (hpl := hpl)
/-! ### methods of lists -/
/-- xs.append(e) -/
def eAppend (fo f : Ex) : Ex := fun st => (fo st).bind fun x c1 => match x with
  | .loc n => (match c1[n]? with
    | some (.lst _) => (f ⟨st.env, c1⟩).bind fun y c2 => (match c2[n]? with
      | some (.lst ds) => if ds.length < 16777216 then .ok .non (c2.set n (.lst (ds ++ [y]))) else .no
      | _ => .no)
    | _ => .no)
  | _ => .no
theorem de_append {c : Expr} {fo f : Ex} (hK : X.K = G.K.K) (h : PE X c (tBM X.K "list" rAppend (tE G W fo) (tCons (tE G W f) tNil))) : PE X c (tE G W (eAppend fo f)) :=
  h.impV fun σ H Q ⟨ρ, F, st, r, p⟩ => seqX r p fun ρ1 F1 H1 x c1 v x1 r1 rv1 p1 => by
    cases rv1 with
    | @loc n a0 h1 =>
      simp only at p1
      cases q : c1[n]? with
      | none => rw [q] at p1; exact p1.elim
      | some c0 =>
        rw [q] at p1
        cases c0 with
        | dk _ _ => exact p1.elim
        | ins _ _ _ => exact p1.elim
        | lst ds0 =>
          simp only at p1
          obtain ⟨vs0, h2, h3⟩ := r1.cell n _ _ q h1
          refine ⟨.inl ⟨rfl, vs0, SqL.of h2⟩, ?_⟩
          refine seqX (st := ⟨st.env, c1⟩) (f := f) r1 p1 fun ρ2 F2 H2 y c2 w x2 r2 rv2 p2 => ?_
          cases q2 : c2[n]? with
          | none => rw [q2] at p2; exact p2.elim
          | some c0 =>
            rw [q2] at p2
            cases c0 with
            | dk _ _ => exact p2.elim
            | ins _ _ _ => exact p2.elim
            | lst ds =>
              simp only at p2
              by_cases c : ds.length < 16777216
              · rw [if_pos c] at p2
                obtain ⟨vs, h4, h5⟩ := r2.cell n _ _ q2 (x2.at h1)
                refine ⟨a0, vs, w, rfl, rfl, h4, by rw [← h5.length, sizeLine_eq]; exact c, ?_⟩
                exact p2 ρ2 F2 _ .non Ext.refl (r2.cellSet (st := ⟨st.env, c2⟩) (c := .lst (ds ++ [y])) (x2.at h1) ⟨_, upd_same, h5.append (RVs.one rv2)⟩) .non
              · rw [if_neg c] at p2
                exact p2.elim
    | _ => exact p1.elim
/-- xs.pop() -/
def ePop (fo : Ex) : Ex := fun st => (fo st).bind fun x c1 => match x with
  | .loc n => (match c1[n]? with
    | some (.lst ds) => (match ds.getLast? with
      | some y => .ok y (c1.set n (.lst ds.dropLast))
      | none => .no)
    | _ => .no)
  | _ => .no
theorem RVs.dropLast {K : Kt} {ρ : List Addr} {F : Hp} {ds : List D} {vs : List V} (h : RVs K ρ F ds vs) : RVs K ρ F ds.dropLast vs.dropLast := by
  rw [List.dropLast_eq_take, List.dropLast_eq_take, h.length]
  exact h.take _
theorem de_pop {c : Expr} {fo : Ex} (hK : X.K = G.K.K) (h : PE X c (tBM0 X.K "list" rPop (tE G W fo))) : PE X c (tE G W (ePop fo)) :=
  h.impV fun σ H Q ⟨ρ, F, st, r, p⟩ => seqX r p fun ρ1 F1 H1 x c1 v x1 r1 rv1 p1 => by
    cases rv1 with
    | @loc n a0 h1 =>
      simp only at p1
      cases q : c1[n]? with
      | none => rw [q] at p1; exact p1.elim
      | some c0 =>
        rw [q] at p1
        cases c0 with
        | dk _ _ => exact p1.elim
        | ins _ _ _ => exact p1.elim
        | lst ds =>
          simp only at p1
          obtain ⟨vs, h2, h3⟩ := r1.cell n _ _ q h1
          cases q2 : ds.getLast? with
          | none => rw [q2] at p1; exact p1.elim
          | some y =>
            rw [q2] at p1
            rw [List.getLast?_eq_getElem?] at q2
            obtain ⟨w, e1, e2⟩ := h3.get q2
            rw [h3.length] at e1
            refine ⟨.inl ⟨rfl, vs, SqL.of h2⟩, a0, vs, w, rfl, rfl, h2, e1, ?_⟩
            exact p1 ρ1 F1 _ w Ext.refl (r1.cellSet (st := ⟨st.env, c1⟩) (c := .lst ds.dropLast) h1 ⟨_, upd_same, h3.dropLast⟩) e2
    | _ => exact p1.elim
end
end VL

namespace VL
open PySem L2 PyProof.Rows
/-! ### the law itself, called from outside: no repr is under way -/
/-- the def at f keeps sp when it is called from outside -/
structure AtC (P : Program) (w : World) (K : PySem.W.Frag) (mg : Str → Option Value) (base : Heap) (CX : CXT) (k : Nat) (f : Addr) (fd : FuncData) (ps : List Str) (sp : Sp) : Prop where
  run : ∀ (s : Shared) (H : Hp) (args : Args) (us : List Value) (vs : List V) (Q : VK) (E : XK), Room k callerA → Env0 P w K mg base callerA [] s H → BindsTo s fd args (ps.zip us) → Vals vs us → sp vs H Q E →
    codeAny (model P w) callerA (.call (.ref f) args) (CR CX [] P w H s Q E) s
section
variable {P : Program} {w : World} {mg : Str → Option Value} {base : Heap}
theorem atC_of {K : PySem.W.Frag} {CX : CXT} {k : Nat} {f : Addr} {name qual : Str} {st : Stmt} {fd : FuncData} {N ps : List Str} {sp : Sp} (Fu : Fun K name qual st f fd) (Sc : FnScope N ps (defScope st)) (hlen : ∀ vs H Q E, sp vs H Q E → vs.length = ps.length)
    (body : ∀ (cdv : Value) (s : Shared) (H : Hp) (vs : List V) (Q : VK) (E : XK), Room k (callerA.deeper (envOfC qual (defScope st) s.heap.objs.size f cdv)) → sp vs H Q E →
      ∃ t, PSs (cxOf CX P w K mg base N qual (defScope st) f cdv callerA [] s H E) (defBody st) t ∧ t { nx := fun _ H1 => Q .non H1, rt := Q } (L2.start N vs) H) :
    AtC P w K mg base CX (k + 1) f fd ps sp := by
  obtain ⟨oc, od, kV, doc, pm, an, cdv, ct, osl, rfl, lk, hcd⟩ := Fu.ex
  constructor
  intro s H args us vs Q E room e0 bind vals hsp
  have kin : K.In s.heap := e0.mod.kin.keeps fun b o h => (e0.bs b o h).1
  have nol : s.heap.NoLimit := e0.mod.nolimit.keeps fun b o h => (e0.bs b o h).1
  have kinds : ∀ y ∈ ps.zip us, (defScope st).names.lookup y.1 = some .local ∨
      ((defScope st).names.lookup y.1 = some .cell ∧ ((cellsFrom (s.heap.objs.size + 1) (defScope st).names []).lookup y.1).isSome = true) := by
    rintro ⟨nm, val⟩ hy
    cases Sc.par nm (List.of_mem_zip hy).1 with
    | inl h => exact .inl h
    | inr h => exact .inr ⟨h, PySem.W.cellsFrom_some _ _ _ (.inl h)⟩
  refine codeAny_call_function room.depth (kin _ _ lk) rfl Sc.co Sc.gen rfl (PySem.W.codeRec_of kin hcd) ?_
  refine bind _ _ _ _ ?_
  refine wpAny_newFunctionEnv_cells Sc.kind kinds ?_
  rintro env rfl s1 x
  refine ⟨nol.keeps x.toInCall.keep, codeAny_func ?_⟩
  obtain ⟨t, pt, ht⟩ := body cdv s H vs Q E (room.deeper _) hsp
  have inv := inv_start (CX := CX) (P := P) (w := w) (K := K) (mg := mg) (base := base) (N := N) (ps := ps) (E := E) (A := callerA) (outer := []) Sc room.hd e0 (hlen _ _ _ _ hsp) vals x
  refine wpAny_mono (pt.run [] s1 _ H _ inv ht) ?_ fun _ _ h => h
  intro fl s' hs
  cases fl with
  | brk => obtain ⟨_, _, _, h⟩ := hs; exact h.elim
  | cont => obtain ⟨_, _, _, h⟩ := hs; exact h.elim
  | next =>
    obtain ⟨σ', H', J, h⟩ := hs
    exact ⟨V.non, H', J.os, J.bare, J.base, J.hok, rfl, h⟩
  | ret u =>
    obtain ⟨v, σ', H', J, rv, h⟩ := hs
    exact ⟨v, H', J.os, J.bare, J.base, J.hok, rv, h⟩
/-- the law's call, by that promise -/
theorem lawC {K : PySem.W.Frag} {mb : Str → Option Value} {CX : CXT} {k : Nat} {fa a : Addr} {fd : FuncData} {x : Str} {sp : Sp} {s₁ : Shared} {vs : List Value} {ns : List Int}
    (kin : K.In s₁.heap) (globs : s₁.heap.Ns mainGlobals mg) (blt : s₁.heap.Ns builtinsNs mb) (bb : ∀ x : Str, x ≠ "__name__" → mb x = bootBuiltins x) (nol : s₁.heap.NoLimit) (gens : s₁.gens = #[])
    (obj : s₁.heap.get? a = some { cls := .type "list", data := .seq vs.toArray }) (areInts : IntsAre vs ns) (size : ns.length ≤ sizeLine) (room : Room k callerA)
    (F : ∀ base : Heap, K.In base → base.Ns mainGlobals mg → AtC P w K mg base CX k fa fd [x] sp) (binds : ∀ (s : Shared) (u : Value), BindsTo s fd ⟨[u], []⟩ [(x, u)])
    (pre : ∀ H : Hp, Only H → SqL K H a (ns.map V.int) → sp [.ref a] H (fun v _ => v = .bl true) fun _ _ _ => False)
    (noX : ∀ H e s', CX [] H s₁ (fun _ _ _ => False) e s' → False) :
    codeAny (model P w) callerA (.call (.ref fa) ⟨[.ref a], []⟩) (fun r s' => r = .ok (.ret (.bool true)) ∧ OldK s₁.heap s'.heap ∧ s'.os = s₁.os ∧ AllBare s'.gens) s₁ := by
  have rv := vals_ints areInts
  have hlv := areInts.length
  have main : ∀ H : Hp, Only H → SqL K H a (ns.map V.int) → HOk P w H s₁.heap → (∀ b o, H b = some o → b = a ∧ K.lookup a = none) →
      codeAny (model P w) callerA (.call (.ref fa) ⟨[.ref a], []⟩) (fun r s' => r = .ok (.ret (.bool true)) ∧ OldK s₁.heap s'.heap ∧ s'.os = s₁.os ∧ AllBare s'.gens) s₁ := by
    intro H only sq hok hA
    have noDict : ∀ {b : Addr} {o : Obj} {es : Array DictEntry} {ep : Nat}, s₁.heap.get? b = some o → o.data = .dict es ep → H b = none := by
      intro b o es ep hb hd
      cases q : H b with
      | none => rfl
      | some u =>
        obtain ⟨rfl, _⟩ := hA b u q
        rw [obj] at hb
        cases hb
        exact nomatch hd
    have nsB : ∀ {b : Addr} {m : Str → Option Value}, s₁.heap.Ns b m → (hidT s₁.heap H).Ns b m := by
      rintro b m ⟨o, es, ep, h1, h2, h3⟩
      exact ⟨o, es, ep, hidT_get h1 (noDict h1 h2), h2, h3⟩
    have kinB : K.In (hidT s₁.heap H) := by
      intro b o hb
      refine hidT_get (kin b o hb) ?_
      cases q : H b with
      | none => rfl
      | some u =>
        obtain ⟨rfl, h2⟩ := hA b u q
        rw [h2] at hb
        cases hb
    have md : Mod K mg (hidT s₁.heap H) := by
      refine ⟨kinB, nsB globs, ⟨mb, nsB blt, bb⟩, ?_⟩
      obtain ⟨mc, h1, h2⟩ := nol
      exact ⟨mc, nsB h1, h2⟩
    have nomem : ∀ b : Addr, b ∉ frs [] := fun b z => absurd (show b ∈ ([] : List Addr) from z) (by simp)
    have env : Env0 P w K mg (hidT s₁.heap H) callerA [] s₁ H :=
      ⟨rfl, md, fun b o h => of_hidT h, Nat.le_of_eq (hidT_size _ _), trivial, fun b z => absurd z (nomem b), hok, .of_eq gens⟩
    refine codeAny_mono ((F _ kinB (nsB globs)).run s₁ H ⟨[.ref a], []⟩ [.ref a] [.ref a] _ _ room env (binds s₁ (.ref a)) (.cons rfl .nil) (pre H only sq)) ?_
    intro r s' h
    match r, h with
    | .error e, h => exact (noX H e s' h).elim
    | .ok .next, h => exact h.elim
    | .ok .brk, h => exact h.elim
    | .ok .cont, h => exact h.elim
    | .ok (.ret u), ⟨v, H', os, bare, un, hok', ru, hv⟩ =>
      have hv : v = .bl true := hv
      subst hv
      obtain rfl : u = Value.bool true := ru
      refine ⟨rfl, OldK.of_keep ?_, os, bare⟩
      intro b o hb
      cases q : H b with
      | none => exact un.keep b o hb q (nomem b) (by simp)
      | some u =>
        rcases only b with z | ⟨ob, xs, z⟩
        · rw [q] at z
          cases z
        · obtain ⟨h1, _⟩ := hok b _ z
          obtain ⟨h2, _⟩ := hok' b _ (un.frzs b ob _ z)
          rw [hb] at h1
          cases h1
          exact h2
  cases hk : K.lookup a with
  | some o =>
    have e := kin a o hk
    rw [obj] at e
    cases e
    refine main (fun _ => none) (fun _ => .inl rfl) (.inr ⟨_, vs.toArray, _, hk, rfl, rfl, rfl, ?_, ?_⟩) (fun b u z => nomatch z) (fun b u z => nomatch z)
    · rw [List.size_toArray, hlv]
      exact size
    · simpa using rv
  | none =>
    have at_a : ∀ b u, (if b = a then some (HO.frz { cls := .type "list", data := .seq vs.toArray } (.lst (ns.map V.int))) else none) = some u → b = a ∧ u = HO.frz { cls := .type "list", data := .seq vs.toArray } (.lst (ns.map V.int)) := by
      intro b u z
      by_cases hb : b = a
      · rw [if_pos hb] at z
        exact ⟨hb, (Option.some.inj z).symm⟩
      · rw [if_neg hb] at z
        cases z
    refine main (fun b => if b = a then some (.frz { cls := .type "list", data := .seq vs.toArray } (.lst (ns.map V.int))) else none) ?_ (.inl (.inr ⟨_, if_pos rfl⟩)) ?_ fun b u z => ⟨(at_a b u z).1, hk⟩
    · intro b
      by_cases hb : b = a
      · exact .inr ⟨_, _, if_pos hb⟩
      · exact .inl (if_neg hb)
    · intro b u z
      obtain ⟨rfl, rfl⟩ := at_a b u z
      refine ⟨obj, ?_, vs, _, rv, obj⟩
      rw [List.length_map]
      exact size
end
/-- THE END: k_head's goal, from a promise that holds from outside -/
theorem walkC {l : PySem.W.OpenLaw} {n k : Nat} {q : Program} {loose : List Str} {XP : (Str → Option Value) → Heap → Prop} {YP : World → Heap → Prop} {d : DefRec} {K : Params → PySem.W.Frag} {CX : World → CXT} {x : Str}
    (hn : l.most = some n) (hn2 : n ≤ sizeLine) (hdf : d.params.defaults = []) (hr : Room k callerA)
    (hY : ∀ (w : World) (h : Heap), YP w h → (K w.params).In h)
    (F : ∀ (w : World) (mg : Str → Option Value) (fa : Addr) (h : Heap), (K w.params).In h → h.Ns mainGlobals mg → mg d.name = some (.ref fa) →
      ∃ fd : FuncData, (∀ (s : Shared) (u : Value), BindsTo s fd ⟨[u], []⟩ [(x, u)]) ∧
        ∃ sp : Sp, (∀ base : Heap, (K w.params).In base → base.Ns mainGlobals mg → AtC l.prog w (K w.params) mg base (CX w) k fa fd [x] sp) ∧
          ∀ (H : Hp) (a : Addr) (ns : List Int), ns.length ≤ n → Only H → SqL (K w.params) H a (ns.map V.int) → sp [.ref a] H (fun v _ => v = .bl true) fun _ _ _ => False)
    (hCX : ∀ (w : World) (H : Hp) (s : Shared) (e : Value) (s' : Shared), CX w [] H s (fun _ _ _ => False) e s' → False) :
    PySem.W.WalkO q loose XP YP l.row.toRowW d [] (fun f vs => PySem.call f vs) := by
  refine Att.attach_call hn hdf ?_
  intro w s₀ s₁ mg mb fa o pm cd doc a vs ns G Y ho hd hcd hmg hobj hints hlen hg
  obtain ⟨fd, hb, sp, hF, hs⟩ := F w mg fa _ (hY w _ Y) G.T.g hmg
  refine lawC (hY w _ Y) G.T.g G.T.b G.T.builtins G.T.nolimit hg hobj hints (Nat.le_trans hlen hn2) hr hF hb ?_ ?_
  · intro H hO hS
    exact hs H a ns hlen hO hS
  · intro H e s'
    exact hCX w H s₁ e s'
/-- no exception with no wish -/
theorem noCX {P : Program} {w : World} (H : Hp) (s : Shared) (e : Value) (s' : Shared) (h : L2.CX P w [] H s (fun _ _ _ => False) e s') : False := by
  obtain ⟨a, B, H', cls, d, _, _, _, _, _, _, _, hE⟩ := h
  exact hE
/-- the law's body by a plain function over the script's ints -/
theorem lawV {P : Program} {w : World} {K : Kt} {mg : Str → Option Value} {base : Heap} {k : Nat} {f : Addr} {name qual x : Str} {st : Stmt} {fd : FuncData} {N : List Str} {body : Sx} (Fu : Fun K.K name qual st f fd) (Sc : FnScope N [x] (defScope st))
    (hbody : ∀ (G : Gx), G.K = K → ∀ (cdv : Value) (s : Shared) (H : Hp) (E : XK), Room k (callerA.deeper (envOfC qual (defScope st) s.heap.objs.size f cdv)) →
      PSs (cxOf (L2.CX P w) P w K.K mg base N qual (defScope st) f cdv callerA [] s H E) (defBody st) (tS G (fun cls d _ H' => E cls d H') body)) :
    AtC P w K.K mg base (L2.CX P w) (k + 1) f fd [x] (spF K 1 (runF N.length body)) := by
  refine atC_of Fu Sc (fun vs H Q E h => spF_len h) ?_
  intro cdv s H vs Q E hr h
  obtain ⟨G, e, t⟩ := body_of h
  exact ⟨_, hbody G e cdv s H E hr, t⟩
/-- the script, handed to the law -/
theorem law_pre {K : Kt} {n : Nat} {fn : Fn} (h : ∀ ns : List Int, ns.length ≤ n → ∃ cs, fn [.frl (ns.map D.int)] [] = .ok (.bl true) cs) (H : Hp) (a : Addr) (ns : List Int) (hl : ns.length ≤ n) (_ : Only H) (hs : SqL K.K H a (ns.map V.int)) :
    spF K 1 fn [.ref a] H (fun v _ => v = .bl true) fun _ _ _ => False := by
  obtain ⟨cs, e⟩ := h ns hl
  refine ⟨[], H, [.frl (ns.map D.int)], [], ⟨rfl, fun i d e => by simp at e, rfl, fun i c a e => by simp at e, List.nodup_nil, Same.refl _, fun a ha => by simp at ha, fun _ _ h _ => h, fun a ha => by simp at ha, fun _ _ h => .inl h, Same.refl _, List.prefix_refl _⟩, .cons (.frl hs (ints_back ns)) .nil, rfl, ?_⟩
  rw [e]
  intro ρ F H' v x r rv
  cases rv
  rfl
end VL

/-! VLE: enumerate of a tuple -/
namespace VL
open PySem L2 PyProof.Rows
set_option maxHeartbeats 1000000 in
theorem enum_new1 {v : Value} {o : Obj} {Hh : Heap → Prop} (B : Begins v o Hh) :
    Meets (Builtin.«enumerate.__new__» ⟨[.type "enumerate", v], []⟩) (fun _ R s => Hh s.heap ∧
      R (.ok (.ret (.ref (s.heap.push o).objs.size))) { s with heap := (s.heap.push o).push { cls := .type "enumerate", data := .fields #[.none, .bool false, .ref s.heap.objs.size, rawInt 0, .none, .none] } }) :=
  .of_wp fun prog w A R s hs => by
    obtain ⟨hp, gn, dr, tk, os⟩ := s
    obtain ⟨hH, hR⟩ := hs
    have sub := sub_enumerate
    have step : ∀ {A1 : Around} {E1 : Value → Shared → Prop} {Q1 : Value → Shared → Prop}, Q1 (.ref hp.objs.size) ⟨hp.push o, gn, dr, tk, os⟩ → wpAny (model prog w) A1 (pyIter v) Q1 E1 ⟨hp, gn, dr, tk, os⟩ := by
      intro A1 E1 Q1 h1
      exact B.iter prog w _ _ ⟨hp, gn, dr, tk, os⟩ _ hH h1
    wp_walk using step
    refine wpAny_stack_any fun stk => wpAny_pure ?_
    split
    · rename_i cl _ _ _ _ _
      cases (cl == Value.type "enumerate")
      all_goals
        wp_walk using step
        exact ⟨_, rfl, hR⟩
    · wp_walk using step
      exact ⟨_, rfl, hR⟩
section
variable {prog : Program} {w : World} {A : Around} {E : Value → Shared → Prop} {s : Shared}
theorem enum_tup {t : Addr} {items : Array Value} {Q : Value → Shared → Prop} (ht : s.heap.IsTuple t items)
    (h : ∀ h', IsEnum h' (s.heap.objs.size + 1) s.heap.objs.size 0 .none → h'.IsTupleIter s.heap.objs.size t 0 →
      (∀ b o, s.heap.get? b = some o → h'.get? b = some o) → Q (.ref (s.heap.objs.size + 1)) { s with heap := h' }) :
    wpAny (model prog w) A (call (.type "enumerate") [.ref t]) Q E s := by
  refine callType_new F.called_enumerate (by decide) (F.typeCall_enumerate_1 _) (F.newCall_enumerate_1 _) (fun obj => F.args_object_init_2 obj _) F.entry_enumerate_new (enum_new1 (begins_tuple t items)) ⟨ht, ?_⟩
  generalize hO : ({ cls := .type "tuple_iterator", data := .fields #[.ref t, .int 0 0] } : Obj) = O
  have sz : (s.heap.push O).objs.size = s.heap.objs.size + 1 := Heap.size_push ..
  show _ ∧ _
  rw [sz]
  have he : IsEnum ((s.heap.push O).push { cls := .type "enumerate", data := .fields #[.none, .bool false, .ref s.heap.objs.size, rawInt 0, .none, .none] }) (s.heap.objs.size + 1) s.heap.objs.size 0 .none := by
    have q := Heap.get?_push_size (s.heap.push O) (o := { cls := .type "enumerate", data := .fields #[.none, .bool false, .ref s.heap.objs.size, rawInt 0, .none, .none] }) rfl
    rw [sz] at q
    exact q
  have hi : ((s.heap.push O).push { cls := .type "enumerate", data := .fields #[.none, .bool false, .ref s.heap.objs.size, rawInt 0, .none, .none] }).get? s.heap.objs.size = some O :=
    Heap.get?_push_of_some _ (Heap.get?_push_size _ (by rw [← hO]; rfl))
  refine ⟨⟨_, he, rfl⟩, h _ he ⟨O, hi, by rw [← hO], by rw [← hO]; rfl⟩ fun b ob y => Heap.get?_push_of_some _ (Heap.get?_push_of_some _ y)⟩
end
/-- each item of the tuple at a in a new pair -/
def IteT (K : PySem.W.Frag) (a : Addr) : It where
  go := fun i H => ∃ (xs : List V) (x : V), SqT K H a xs ∧ xs[i]? = some x
  yld := fun i H v H' => ∃ T x, v = .ref T ∧ H T = none ∧ H' = upd H T (.tup [.int (i : Nat), x]) ∧ ∀ xs, SqT K H a xs → xs[i]? = some x
  stop := fun i H => ∃ xs : List V, SqT K H a xs ∧ xs.length = i
theorem tupIter_ne {h : Heap} {it a : Addr} {i : Nat} {items : Array Value} (h1 : h.IsTupleIter it a i) (h2 : h.IsTuple a items) : a ≠ it := by
  rintro rfl
  obtain ⟨o, e, c, _⟩ := h1
  obtain ⟨o2, e2, c2, _⟩ := h2
  rw [e] at e2
  cases e2
  rw [c] at c2
  exact absurd c2 (by decide)
theorem turn_enumT {P : Program} {w : World} {K : PySem.W.Frag} {elts : List Expr} {kk : Nat} {tpos : Pos} (a e it : Addr) :
    Turn P w K (.Tuple elts kk tpos) (IteT K a) [e, it] e (fun i h => (∃ old, IsEnum h e it ((i : Nat) : Int) old) ∧ h.IsTupleIter it a i ∧ e ≠ it) where
  mem := by simp
  obj := by
    rintro i h ⟨⟨old, he⟩, ⟨o, ho, hc, hd⟩, _⟩ b hb
    rcases List.mem_cons.mp hb with rfl | hb
    · exact ⟨_, he, fun v q => nomatch q⟩
    · rw [List.mem_singleton.mp hb]
      exact ⟨o, ho, fun v q => by rw [hd] at q; cases q⟩
  keep := by
    rintro i h h' ⟨⟨old, he⟩, hi, ne⟩ k
    exact ⟨⟨old, k e (by simp) _ he⟩, hi.at fun o q => k it (by simp) o q, ne⟩
  item := by
    intro X hP hw hK hc i pins s σ H E I hf st hg
    subst hP hw hK
    obtain ⟨⟨old, he⟩, hit, ne⟩ := st
    obtain ⟨xs, x, hq, hx⟩ := hg
    obtain ⟨its, rv, pt, hz⟩ := I.tuple hq
    have pt : s.heap.IsTuple a its.toArray := pt
    obtain ⟨u, hu, ru⟩ := rv.get hx
    have hi : i < its.toArray.size := by
      rw [List.size_toArray]
      exact (List.getElem?_eq_some_iff.mp hu).1
    have lte : e < s.heap.objs.size := Heap.lt_size he
    have lti : it < s.heap.objs.size := by
      obtain ⟨_, q, _⟩ := hit
      exact Heap.lt_size q
    have nea : e ≠ a := by
      rintro rfl
      obtain ⟨o2, e2, c2, _⟩ := pt
      rw [he] at e2
      cases e2
      exact absurd (show Value.type "enumerate" = Value.type "tuple" from c2) (by decide)
    have Dr := Draws.tuple (prog := X.prog) (w := X.w) (A := X.A.in1) (I.ok.hd hc) it a (tupIter_ne hit pt) its.toArray
    refine wpAny_pyNext_enum_itemD Dr he ⟨hit, pt⟩ hi ne (by simp [ne, nea]) ?_
    intro y h' tk hy hOut hSt hT hsz hk
    have ey : y = u := by
      rw [List.getElem?_toArray, hu] at hy
      exact (Option.some.inj hy).symm
    subst ey
    refine ⟨_, rfl, wpAny_letOwnedTupleGo_enum (s := { s with heap := h', toks := tk + 1 }) hOut ?_⟩
    intro h2 he2 sb
    have at2 : h2.get? s.heap.objs.size = some { cls := .type "tuple", data := .seq #[.int i tk, y] } := (sb.2 _ (Nat.ne_of_gt lte)).trans hT
    have new : ObjOk X.prog X.w (upd H s.heap.objs.size (.tup [.int (i : Nat), x])) h2 s.heap.objs.size (.tup [.int (i : Nat), x]) := by
      refine ⟨by show 2 ≤ sizeLine; decide, [.int i tk, y], .cons ⟨_, rfl⟩ (.cons ru .nil), ?_⟩
      exact ⟨_, at2, rfl, _, rfl⟩
    have I2 : Inv X pins σ (upd H s.heap.objs.size (.tup [.int (i : Nat), x])) { s with heap := h2, toks := tk + 1 } := by
      refine I.turnedNew (ch := [e, it]) ?_ hf (Nat.le_refl _) new
      intro b ob hb q
      have n1 : b ≠ e := fun z => hb (by simp [z])
      have n2 : b ≠ it := fun z => hb (by simp [z])
      exact (sb.2 b n1).trans (hk b ob n1 n2 q)
    refine ⟨.ref s.heap.objs.size, _, I2, rfl, ⟨_, x, rfl, I.hok.fresh (Nat.le_refl _), rfl, ?_⟩, ⟨⟨y, ?_⟩, hSt.1.at fun o q => (sb.2 it (Ne.symm ne)).trans q, ne⟩, ?_⟩
    · intro ys hys
      rw [I.tuple_inj hys hq]
      exact hx
    · rw [show ((i + 1 : Nat) : Int) = (i : Int) + 1 by omega]
      exact he2
    · intro b hb
      have lb : b < s.heap.objs.size := by
        rcases List.mem_cons.mp hb with rfl | hb
        · exact lte
        · rw [List.mem_singleton.mp hb]; exact lti
      rw [upd_ne (Nat.ne_of_lt lb)]
      exact (hf b hb).1
  done := by
    intro X hP hw hK hc i pins s σ H E I hf st hg
    subst hP hw hK
    obtain ⟨⟨old, he⟩, hit, ne⟩ := st
    obtain ⟨xs, hq, hx⟩ := hg
    obtain ⟨its, rv, pt, hz⟩ := I.tuple hq
    have pt : s.heap.IsTuple a its.toArray := pt
    obtain ⟨f0, f1, f2, f3, f4, f5⟩ := hf it (by simp)
    have Dr := Draws.tuple (prog := X.prog) (w := X.w) (A := X.A.in1) (I.ok.hd hc) it a (tupIter_ne hit pt) its.toArray
    have ei : its.toArray.size = i := by rw [List.size_toArray, ← rv.length, hx]
    refine wpAny_pyNext_enum_endD Dr he ⟨by rw [ei]; exact hit, pt⟩ ?_
    intro h' eb
    exact ⟨rfl, I.turned (t' := s.toks) (fun b o hb q => eb b o hb q) f0 f1 f3 f4 f5⟩
  self := by
    rintro A i s Q E ⟨⟨_, he⟩, _⟩ h
    exact wpAny_pyIter_enum he h
def iEnumT (K : PySem.W.Frag) (ta : TA) : TI := fun σ H R => ta σ H fun vs H1 => ∃ a xs, vs = [.ref a] ∧ SqT K H1 a xs ∧ R (IteT K a) H1
theorem pi_enumT {X : Cx} {e : Expr} {ta : TA} {p pos tpos : Pos} {elts : List Expr} {kk : Nat} (hg : Gl X "enumerate") (hm : X.mg "enumerate" = none) (ha : PA X [e] ta) (hs : starEach [e] X.env = [(false, eval e X.env)] := by rfl) :
    PI X (.Tuple elts kk tpos) (.Call (.Name "enumerate" p) [e] [] pos) (iEnumT X.K ta) := by
  constructor
  intro pins s σ H R I h
  refine Call_ (ld_blt I hg hm boot_enumerate (PyProof.Rows.callWith_type1 (thn (ha.run pos pins s σ H _ I h) ?_) hs rfl))
  rintro us s1 ⟨vs, H1, I1, r1, a, xs, rfl, hq, q⟩
  cases r1 with
  | cons r rr =>
    cases rr
    cases r
    obtain ⟨its, rv, pt, hz⟩ := I1.tuple hq
    refine enum_tup (show s1.heap.IsTuple a its.toArray from pt) ?_
    intro h' he hit hk
    refine wpAny_pyIter_enum he ?_
    have I2 : Inv X pins σ H1 { s1 with heap := h' } := I1.kept (t' := s1.toks) hk
    refine ⟨s1.heap.objs.size + 1, [s1.heap.objs.size + 1, s1.heap.objs.size], _, _, H1, rfl, I2, turn_enumT a (s1.heap.objs.size + 1) s1.heap.objs.size, ⟨⟨.none, he⟩, hit, Nat.succ_ne_self _⟩, ?_, q⟩
    intro b hb
    have le : s1.heap.objs.size ≤ b := by
      rcases List.mem_cons.mp hb with rfl | hb
      · exact Nat.le_add_right _ _
      · rw [List.mem_singleton.mp hb]; exact Nat.le_refl _
    exact I1.fpOk le (I1.hok.fresh le)
section
variable {X : Cx} {G : Gx} {W : WX} {ρ : List Addr} {F : Hp} {e : Expr} {pos : Pos}
theorem wk_enumT {a : Addr} {ds : List D} {vs : List V} (hs : SqT G.K.K F a vs) (rv : RVs G.K ρ F ds vs) : Wk G ρ F (IteT G.K.K a) (enumD ds) keepAll := by
  intro ρ1 F1 st1 σ1 H1 i x r _
  have hs1 : SqT G.K.K H1 a vs := sqT_same r.fz (sqT_same x.fz hs)
  constructor
  · intro d e
    unfold enumD at e
    rw [List.getElem?_mapIdx] at e
    cases q : ds[i]? with
    | none => rw [q] at e; cases e
    | some d0 =>
      rw [q] at e
      cases e
      obtain ⟨v, e1, e2⟩ := (rv.ext x).get q
      refine ⟨⟨vs, v, hs1, e1⟩, ?_⟩
      rintro y H' ⟨T, u, rfl, e4, rfl, e6⟩
      have e6 := e6 vs hs1
      rw [e1] at e6
      cases e6
      obtain ⟨x2, r2⟩ := r.fresh (o := .tup [.int (i : Nat), v]) e4
      exact ⟨ρ1, _, x2, rfl, same_upd' e4, r2, .tup (SqT.of upd_same) (.cons (.int _) (.cons (e2.ext x2) .nil))⟩
  · intro e
    unfold enumD at e
    rw [List.length_mapIdx] at e
    exact ⟨vs, hs1, by rw [← rv.length, e]⟩
def iEnT (g : Ax) : Ix := fun st => (g st).bind fun xs c1 => match xs with
  | [.tup ds] => .ok (enumD ds, keepAll) c1
  | _ => .no
theorem di_enumT {g : Ax} {p pos tpos : Pos} {elts : List Expr} {kk : Nat} (hK : X.K = G.K.K) (hg : Gl X "enumerate") (hm : X.mg "enumerate" = none) (ha : PA X [e] (tAs G W g)) (hs : starEach [e] X.env = [(false, eval e X.env)] := by rfl) :
    PI X (.Tuple elts kk tpos) (.Call (.Name "enumerate" p) [e] [] pos) (tI G W (iEnT g)) := by
  refine (pi_enumT hg hm ha hs).impV ?_
  rintro σ H R ⟨ρ, F, st, r, p⟩
  refine tI_of (R := RVs) r p (fun ρ1 F1 H1 xs c1 v x1 r1 rv1 q hn => ?_) (fun xs c1 => ?_)
  · rw [hK]
    split at hn
    · cases rv1 with
      | cons h1 h2 =>
        cases h2
        cases h1 with
        | tup h1 h2 => exact ⟨_, _, rfl, sqT_same r1.fz h1, q _ rfl _ (wk_enumT h1 h2)⟩
    · exact absurd rfl hn
  · split <;> first | exact .inl ⟨_, rfl⟩ | exact .inr rfl
end
end VL

/-! VLB: repr, isinstance, new objects, keywords -/
namespace VL
open PySem L2 PyProof.Rows
/-! ### repr of data -/
def rReprD (K : PySem.W.Frag) : List V → Hp → VK → Prop := fun xs H Q => ∃ (x : V) (d : PyData), xs = [x] ∧ Dp K H x d ∧ SeqAt.shaped d = true ∧ d.showable = true ∧ d.shown.length ≤ sizeLine ∧ Q (.str d.shown) H
theorem call_reprD {X : Cx} (hg : X.A.guards = some []) (hu : X.A.units + 66 < cLine) : CallR X (.builtin "repr") (rReprD X.K) := by
  intro pins s σ H xs us Q I r h
  obtain ⟨x, d, rfl, dp, sh, sw, sz, q⟩ := h
  obtain ⟨u, rfl, rx⟩ := vals1 r
  cases d with
  | none =>
    cases dp
    cases rx
    exact PySem.P.repr_of_none ⟨.str _, H, I.tok _, ⟨_, rfl⟩, q⟩
  | bool b =>
    cases dp
    cases rx
    refine PySem.P.repr_of_bool ⟨.str _, H, I.tok _, ⟨_, rfl⟩, ?_⟩
    simp only [PyData.shown] at q
    exact q
  | int i =>
    cases dp
    obtain ⟨t, rfl⟩ := rx
    simp only [PyData.showable, decide_eq_true_eq] at sw
    refine PySem.P.repr_of_int sw ⟨.str _, H, I.tok _, ⟨_, rfl⟩, ?_⟩
    simp only [PyData.shown] at q
    exact q
  | str z =>
    cases dp
    obtain ⟨t, rfl⟩ := rx
    simp only [PyData.shown] at q sz
    exact PySem.P.repr_of_str ⟨.str _, H, I.tok _, ⟨_, rfl⟩, q⟩ sz
  | dict kvs => cases dp
  | list ds =>
    have hd := SeqAt.depth_of_shaped sh
    have hnd := PyData.hasDict_of_canLay _ (SeqAt.canLay_of_shaped sh)
    obtain ⟨as, rd⟩ := Dp.reads I _ _ _ dp rx
    cases dp
    obtain rfl : u = Value.ref _ := rx
    refine repr_of_reads' rd sw (PyData.noDict_hsm hnd) hg (by omega) (fun _ _ e => e) ?_ sz
    intro h' t tk hk
    exact ⟨.str _, H, I.kept hk, ⟨_, rfl⟩, q⟩
  | tuple ds =>
    have hd := SeqAt.depth_of_shaped sh
    have hnd := PyData.hasDict_of_canLay _ (SeqAt.canLay_of_shaped sh)
    obtain ⟨as, rd⟩ := Dp.reads I _ _ _ dp rx
    cases dp
    obtain rfl : u = Value.ref _ := rx
    refine repr_of_reads' rd sw (PyData.noDict_hsm hnd) hg (by omega) (fun _ _ e => e) ?_ sz
    intro h' t tk hk
    exact ⟨.str _, H, I.kept hk, ⟨_, rfl⟩, q⟩
/-- may be shown -/
def showOk (d : D) : Bool := plain d && SeqAt.shaped (py d) && (py d).showable && decide ((py d).shown.length ≤ 16777216)
def hRepr : FB := fun cs ds => match ds with
  | [x] => if showOk (norm cs x) then .ok (.str (py (norm cs x)).shown) cs else .no
  | _ => .no
section
variable {X : Cx} {G : Gx} {W : WX} {e a : Expr} {es : List Expr} {g : Ax} {pos p : Pos} {fa : Ex}
theorem vn_repr : VN G W (rReprD G.K.K) hRepr := by
  intro ρ F st σ H ds vs Q r rv p
  unfold hRepr at p
  split at p
  · rename_i x
    cases rv with
    | cons h1 h2 =>
      cases h2
      by_cases c : showOk (norm st.cs x) = true
      · rw [if_pos c] at p
        unfold showOk at c
        simp only [Bool.and_eq_true, decide_eq_true_eq] at c
        exact ⟨_, _, rfl, dp_norm r h1 c.1.1.1, c.1.1.2, c.1.2, line_of c.2, p.here r (.str _)⟩
      · rw [if_neg c] at p
        exact p.elim
  · exact p.elim
theorem de_repr (hK : X.K = G.K.K) (hgd : X.A.guards = some []) (hu : X.A.units + 66 < cLine) (hg : Gl X "repr") (hm : X.mg "repr" = none) (ha : PA X (e :: es) (tAs G W g)) (he : starEach (e :: es) X.env = (false, eval e X.env) :: starEach es X.env := by rfl) (hpl : (backTo pos (starEach es X.env)).any (·.1) = false := by rfl) : PE X (.Call (.Name "repr" p) (e :: es) [] pos) (tE G W (eB hRepr g)) :=
  de_callB (call_reprD hgd hu) (by rw [hK]; exact vn_repr) hg hm boot_repr ha (he := he) (hpl := hpl)
/-! ### isinstance with a built-in class -/
def tyD (cs : List Cell) : D → Option String
  | .non => some "NoneType"
  | .bl _ => some "bool"
  | .int _ => some "int"
  | .str _ => some "str"
  | .tup _ => some "tuple"
  | .obj _ _ _ => none
  | .cls _ => none
  | d => (lstOf cs d).map fun _ => "list"
theorem tyX_of {ρ : List Addr} {F : Hp} {st : S} {σ : L2.St} {H : Hp} {x : D} {v : V} {n : String} (r : Rel G ρ F st σ H) (h : RV G.K ρ F x v) (e : tyD st.cs x = some n) : TyX G.K.K H v (.type n) := by
  have lists : ∀ {y : D}, RV G.K ρ F y v → (lstOf st.cs y).map (fun _ => "list") = some n → TyX G.K.K H v (.type n) := by
    intro y hy e
    cases q : lstOf st.cs y with
    | none => rw [q] at e; cases e
    | some ds =>
      rw [q] at e
      cases e
      obtain ⟨b, vs, rfl, s2, _⟩ := lst_read r hy q
      rcases s2 with (s2 | ⟨o, s2⟩) | ⟨o, its, k, l1, l2, _⟩
      · exact .base (.lst s2)
      · exact .base (.frz s2)
      · exact .kList l1 l2
  cases h with
  | non => cases e; exact .base .non
  | bl b => cases e; exact .base (.bl b)
  | int i => cases e; exact .base (.int i)
  | str z => cases e; exact .base (.str z)
  | tup h1 h2 =>
    cases e
    rcases sqT_same r.fz h1 with (s2 | ⟨o, s2⟩) | ⟨o, its, k, l1, l2, _⟩
    · exact .base (.tup s2)
    · exact .fTuple s2
    · exact .kTuple l1 l2
  | lst h1 h2 => exact lists (.lst h1 h2) e
  | frl h1 h2 => exact lists (.frl h1 h2) e
  | loc h1 => exact lists (.loc h1) e
  | obj => cases e
  | cls => cases e
def isSub (a b : String) : Option Bool :=
  if ["NoneType", "bool", "int", "str", "tuple", "list"].contains a && ["bool", "int", "str", "tuple", "list"].contains b then some (a == b || a == "bool" && b == "int") else none
theorem isSub_of {a b : String} {k : Bool} (h : isSub a b = some k) : kitB a b = some k := by
  unfold isSub at h
  split at h
  · rename_i c
    rw [Bool.and_eq_true] at c
    have h1 := List.contains_iff_mem.mp c.1
    have h2 := List.contains_iff_mem.mp c.2
    cases h
    simp only [List.mem_cons, List.not_mem_nil, or_false] at h1 h2
    rcases h1 with rfl | rfl | rfl | rfl | rfl | rfl <;> rcases h2 with rfl | rfl | rfl | rfl | rfl <;> decide +kernel
  · cases h
def gIsi (T : String) : F1 := fun cs x => match tyD cs x with
  | some n => (match isSub n T with
    | some k => .ok (.bl k) cs
    | none => .no)
  | none => .no
theorem de_isi {T : String} {x : Str} {p1 p2 : Pos} (hK : X.K = G.K.K) (hg : Gl X "isinstance") (hm : X.mg "isinstance" = none) (hgT : Gl X x) (hmT : X.mg x = none) (hbT : bootBuiltins x = some (.type T)) (ha : PE X a (tE G W fa)) (hn : x ≠ "__name__" := by decide) (hd : (x == ("__debug__" : Str)) = false := by decide)
    (hs : starEach [a, .Name x p2] X.env = (false, eval a X.env) :: starEach [.Name x p2] X.env := by rfl) (hpl : (backTo pos (starEach [.Name x p2] X.env)).any (·.1) = false := by rfl) (hs2 : starEach [.Name x p2] X.env = (false, eval (.Name x p2) X.env) :: starEach [] X.env := by rfl) :
    PE X (.Call (.Name "isinstance" p1) [a, .Name x p2] [] pos) (tE G W (eUn (gIsi T) fa)) := by
  have hT : PE X (.Name x p2) (tC (.ty T)) := pe_bltn hgT hmT hbT rfl hn hd
  refine (pe_callB call_isi hg hm boot_isinstance (pa_cons ha (pa_cons hT pa_nil hs2) hs) (he := hs) (hpl := hpl)).impV ?_
  rintro σ H Q ⟨ρ, F, st, r, p⟩
  refine seqX r p fun ρ1 F1 H1 x c1 v x1 r1 rv1 p1 => ?_
  unfold gIsi at p1
  cases q : tyD c1 x with
  | none => rw [q] at p1; exact p1.elim
  | some n =>
    rw [q] at p1
    simp only at p1
    cases q2 : isSub n T with
    | none => rw [q2] at p1; exact p1.elim
    | some k =>
      rw [q2] at p1
      rw [hK]
      exact ⟨v, .ty T, .type n, .type T, k, rfl, .ty T, tyX_of (st := ⟨st.env, c1⟩) r1 rv1 q, kit_ty (isSub_of q2), p1.here (st := ⟨st.env, c1⟩) r1 (.bl _)⟩
/-! ### self.f = e, self an own instance -/
def putD (f : Str) (d : D) : List Str → List D → List Str × List D
  | k :: ks, x :: xs => if k = f then (k :: ks, d :: xs) else ((putD f d ks xs).1.cons k, (putD f d ks xs).2.cons x)
  | _, _ => ([f], [d])
theorem putD_rel {K : Kt} {ρ : List Addr} {F : Hp} {f : Str} {d : D} {v : V} (h : RV K ρ F d v) : ∀ {ks : List Str} {ds : List D} {vs : List V}, RVs K ρ F ds vs → ks.length = vs.length →
    ∃ ws, RVs K ρ F (putD f d ks ds).2 ws ∧ (putD f d ks ds).1.length = ws.length ∧ putF f v (ks.zip vs) = (putD f d ks ds).1.zip ws
  | [], _, _, .nil, _ => ⟨[v], .cons h .nil, rfl, rfl⟩
  | [], _, _, .cons _ _, e => by simp at e
  | _ :: _, _, _, .nil, e => by simp at e
  | k :: ks, _, _, @RVs.cons _ _ _ x xs y ys hx r, e => by
    have e' : ks.length = ys.length := by simpa using e
    unfold putD
    rw [List.zip_cons_cons]
    unfold putF
    by_cases c : k = f
    · rw [if_pos c, if_pos c]
      exact ⟨v :: ys, .cons h r, by simp [e'], by rw [List.zip_cons_cons]⟩
    · rw [if_neg c, if_neg c]
      obtain ⟨ws, h1, h2, h3⟩ := putD_rel h r e'
      exact ⟨y :: ws, .cons hx h1, by simpa using h2, by rw [h3]; rfl⟩
def setFld (cn : Nat) (f : Str) (o v : D) (st : S) : SOut := match o with
  | .loc n => (match st.cs[n]? with
    | some (.ins C ks ds) => if C = cn ∧ ks.length < 1000 then .nx ⟨st.env, st.cs.set n (.ins C (putD f v ks ds).1 (putD f v ks ds).2)⟩ else .no
    | _ => .no)
  | _ => .no
def sSetFld (cn : Nat) (f : Str) (fv fo : Ex) : Sx := fun st => thenS (fv st) st.env fun v st1 => thenS (fo st1) st1.env fun o st2 => setFld cn f o v st2
theorem ds_fld {cn : Nat} {f : Str} {o value : Expr} {fv fo : Ex} {pos' : Pos} (hK : X.K = G.K.K) (hf : FldOk G.K cn f) (ho : PE X o (tE G W fo)) (hv : PE X value (tE G W fv)) (hs : swapsWith value (some (.Attribute o f pos')) pos.line X.env = pure false := by rfl) :
    PS X (.Assign [.Attribute o f pos'] value pos) (tS G W (sSetFld cn f fv fo)) := by
  refine (ps_fld ho hv hs).impV ?_
  rintro E σ H ⟨ρ, F, st, r, p⟩
  refine seqS (f := fv) r p fun ρ1 F1 H1 x c1 v x1 r1 rv1 p1 => ?_
  refine seqS (st := ⟨st.env, c1⟩) (f := fo) r1 p1 fun ρ2 F2 H2 y c2 w x2 r2 rv2 p2 => ?_
  rw [hK]
  unfold setFld at p2
  cases rv2 with
  | @loc n a0 h1 =>
    simp only at p2
    cases q : c2[n]? with
    | none => rw [q] at p2; exact p2.elim
    | some c0 =>
      rw [q] at p2
      cases c0 with
      | lst _ => exact p2.elim
      | dk _ _ => exact p2.elim
      | ins C ks ds =>
        simp only at p2
        by_cases c : C = cn ∧ ks.length < 1000
        · rw [if_pos c] at p2
          obtain ⟨rfl, c2'⟩ := c
          obtain ⟨dx, vs, h2, h3, h4⟩ := r2.cell n _ _ q h1
          refine ⟨a0, _, dx, _, rfl, h2, hf.cl, hf.no, ?_, ?_⟩
          · rw [List.length_zip, ← h3, Nat.min_self]
            exact c2'
          · obtain ⟨ws, g1, g2, g3⟩ := putD_rel (f := f) (rv1.ext x2) h4 h3
            refine p2 ρ2 F2 σ _ Ext.refl (r2.cellSet (st := ⟨st.env, c2⟩) (c := .ins C (putD f x ks ds).1 (putD f x ks ds).2) h1 ⟨dx, ws, ?_, g2, g1⟩)
            rw [upd_same, g3]
        · rw [if_neg c] at p2
          exact p2.elim
  | _ => exact p2.elim
end
/-! ### a new object -/
/-- the last own cell, an instance, becomes a frozen object -/
theorem Rel.freezeO {G : Gx} {ρ0 ρ : List Addr} {F0 F : Hp} {env0 env : List (Option D)} {cs0 cs : List Cell} {C : Nat} {ks : List Str} {ds : List D} {σ0 σ : L2.St} {H0 H : Hp} {a : Addr} {n : Nat} (r0 : Rel G ρ0 F0 ⟨env0, cs0⟩ σ0 H0) (hn : n = cs0.length) (x : Ext ρ0 F0 ρ F)
    (r : Rel G ρ F ⟨env, cs ++ [.ins C ks ds]⟩ σ H) (hl : cs.length = n) (ha : ρ[n]? = some a) (b1 : belows n ds = true) (b2 : cs.all (belowC n) = true) :
    ∃ F', Ext ρ0 F0 ρ0 F' ∧ Rel G ρ0 F' ⟨env0, cs⟩ σ0 H ∧ RV G.K ρ0 F' (.obj C ks ds) (.ref a) := by
  have hρ : ρ.take n = ρ0 := by
    obtain ⟨t, rfl⟩ := x.pre
    rw [hn, ← show ρ0.length = cs0.length from r0.cl, List.take_left]
  obtain ⟨dx, vs, h1, h1l, h2⟩ := r.cell n (.ins C ks ds) a (by
    show (cs ++ [Cell.ins C ks ds])[n]? = _
    rw [List.getElem?_append_right (by omega), hl, Nat.sub_self]; rfl) ha
  have hm : a ∈ ρ := List.mem_of_getElem? ha
  have hFa : F a = none := r.sep a hm
  have s1 : Same F (upd F a (.ins (G.K.κ C) dx (ks.zip vs))) := same_upd' hFa
  have hna : a ∉ ρ0 := fun z => by
    rw [← hρ] at z
    obtain ⟨i, hi, e⟩ := List.getElem_of_mem z
    rw [List.length_take] at hi
    have hin : i < n := by omega
    rw [List.getElem_take] at e
    obtain ⟨h3, h3'⟩ := List.getElem?_eq_some_iff.mp ha
    have := (List.getElem_inj r.nd).mp (e.trans h3'.symm)
    omega
  have hA : a ∉ G.A0 := fun z => hna (r0.a0.subset z)
  have hH0 : G.H0 a = none := (r.own a hm).resolve_left hA
  refine ⟨upd F a (.ins (G.K.κ C) dx (ks.zip vs)), ⟨List.prefix_refl _, x.fz.trans s1⟩, ⟨r0.len, fun i d e => ?_, ?_, fun i c b e1 e2 => ?_, r0.nd, fun b o e => ?_, fun b hb => ?_, r.fr, fun b hb => r.own b (x.pre.subset hb), fun b o e => ?_, r.old.trans s1, r0.a0⟩, ?_⟩
  · obtain ⟨v, e1, e2⟩ := r0.env i d e
    exact ⟨v, e1, e2.ext ⟨List.prefix_refl _, x.fz.trans s1⟩⟩
  · show ρ0.length = cs.length
    rw [hl, hn]; exact r0.cl
  · have e1 : cs[i]? = some c := e1
    have hi : i < cs.length := (List.getElem?_eq_some_iff.mp e1).1
    have q := r.cell i c b (by show (cs ++ [Cell.ins C ks ds])[i]? = _; rw [List.getElem?_append_left hi]; exact e1) (x.at e2)
    have q := q.cut (n := n) s1 (List.all_eq_true.mp b2 c (List.mem_of_getElem? e1))
    rw [hρ] at q
    exact q
  · by_cases hb : b = a
    · subst hb
      rw [upd_same] at e
      cases e
      exact h1
    · rw [upd_ne hb] at e
      exact r.fz b o e
  · rw [upd_ne (show b ≠ a from fun z => hna (by rw [← z]; exact hb))]
    exact r.sep b (x.pre.subset hb)
  · by_cases hb : b = a
    · subst hb
      exact .inr hH0
    · rw [upd_ne hb] at e
      exact r.new b o e
  · have q := h2.cut (n := n) s1 b1
    rw [hρ] at q
    exact .obj upd_same h1l q
def lastIns (cs : List Cell) : Option (List Cell × Nat × List Str × List D) := match cs.reverse with
  | .ins C ks ds :: r => some (r.reverse, C, ks, ds)
  | _ => none
theorem lastIns_eq {cs c1 : List Cell} {C : Nat} {ks : List Str} {ds : List D} (h : lastIns cs = some (c1, C, ks, ds)) : cs = c1 ++ [.ins C ks ds] := by
  unfold lastIns at h
  split at h
  · rename_i e
    cases h
    rw [← List.reverse_reverse cs, e, List.reverse_cons]
  · cases h
/-- C(..): __init__ is fn; the new instance is its first argument -/
def makeD (cn : Nat) (fn : Fn) (ds : List D) (cs : List Cell) : Out D := match fn (.loc cs.length :: ds) (cs ++ [.ins cn [] []]) with
  | .ok .non c2 => (match lastIns c2 with
    | some (c3, C, ks, es) => if C = cn ∧ c3.length = cs.length ∧ belows cs.length es = true ∧ c3.all (belowC cs.length) = true then .ok (.obj C ks es) c3 else .no
    | none => .no)
  | .ok _ _ => .no
  | .ex e c2 => if belows cs.length e.ds = true ∧ (c2.take cs.length).all (belowC cs.length) = true ∧ c2.length = cs.length + 1 then .ex e (c2.take cs.length) else .no
  | .no => .no

section
variable {X : Cx} {G : Gx} {W : WX} {ρ : List Addr} {F : Hp} {st : S} {σ : L2.St} {H : Hp} {e : Expr} {es : List Expr} {g : Ax} {pos p : Pos}
/-- W does not hang on the slots -/
def Flat (W : WX) : Prop := ∀ c d σ σ' H, W c d σ H → W c d σ' H
theorem flat0 : Flat W0 := fun _ _ _ _ _ h => h
theorem flatE {E : XK} : Flat (fun cls d _ H' => E cls d H') := fun _ _ _ _ _ h => h
theorem passF (tk : Takes X W) (hW : Flat W) : Passes (L2.CX X.prog X.w) X (fun c d H => W c d [] H) := fun pins σ H s e s' I c => passes_call tk (fun cls d σ H h => hW _ _ _ _ _ h) pins σ H s e s' I c
theorem make_of {cn n : Nat} {fn : Fn} {ds : List D} {vs : List V} {Q : VK} {x dx : Addr} (hW : Flat W) (r : Rel G ρ F st σ H) (rv : RVs G.K ρ F ds vs) (hn : ds.length + 1 = n) (nx : H x = none) (ndx : H dx = none) (ne : dx ≠ x) (p : Post RV G W ρ F st.env σ Q (makeD cn fn ds st.cs)) :
    spF G.K n fn (.ref x :: vs) (upd (upd H dx (.own x)) x (.ins (G.K.κ cn) dx [])) (fun v H2 => v = .non ∧ Q (.ref x) H2) (fun c d H => W c d [] H) := by
  obtain ⟨x1, r1⟩ := r.fresh (o := .own x) ndx
  have nx1 : (upd H dx (.own x)) x = none := by rw [upd_ne ne.symm]; exact nx
  have y : Ext ρ (upd F dx (.own x)) (ρ ++ [x]) (upd F dx (.own x)) := ⟨List.prefix_append _ _, Same.refl _⟩
  obtain ⟨x2, r2⟩ := r1.cellNew (p := x) (o := .ins (G.K.κ cn) dx []) (c := .ins cn [] []) nx1 ⟨dx, [], upd_same, rfl, .nil⟩
  have hat : (ρ ++ [x])[st.cs.length]? = some x := by rw [← r.cl, List.getElem?_append_right (Nat.le_refl _), Nat.sub_self]; rfl
  refine ⟨ρ ++ [x], upd F dx (.own x), .loc st.cs.length :: ds, st.cs ++ [.ins cn [] []], r2.entry, .cons (.loc hat) ((rv.ext x1).ext x2), by simpa using hn, ?_⟩
  unfold makeD at p
  have x12 := x1.trans x2
  cases q : fn (.loc st.cs.length :: ds) (st.cs ++ [.ins cn [] []]) with
  | no => rw [q] at p; exact p.elim
  | ex e' c2 =>
    rw [q] at p
    simp only at p
    by_cases c : belows st.cs.length e'.ds = true ∧ (c2.take st.cs.length).all (belowC st.cs.length) = true ∧ c2.length = st.cs.length + 1
    · rw [if_pos c] at p
      intro ρ3 F3 H3 cls d x3 r3 xa
      have r4 := r2.after x3 r3
      have eρ : ρ3.take st.cs.length = ρ := by
        obtain ⟨t, ht⟩ := x3.pre
        have ht : (ρ ++ [x]) ++ t = ρ3 := ht
        rw [← ht, List.append_assoc, ← show ρ.length = st.cs.length from r.cl, List.take_left]
      obtain ⟨y1, y2, y3, y4, y5, y6, y7⟩ := xa
      have r5 := r4.entryP (n := st.cs.length) c.2.1
      have e4 : Ext ρ F ρ3 F3 := x12.trans x3
      refine hW _ _ _ _ _ (p ρ F3 H3 cls d ⟨List.prefix_refl _, e4.fz⟩ ?_ ⟨y1, y2, y3, y4, y5, y6, ?_⟩)
      · refine ⟨r.len, fun i d' e1 => ?_, ?_, fun i c0 b e1 e2 => ?_, r.nd, r4.fz, fun b hb => r4.sep b (e4.pre.subset hb), r4.fr, fun b hb => r.own b hb, r4.new, r4.old, r.a0⟩
        · obtain ⟨v, f1, f2⟩ := r.env i d' e1
          exact ⟨v, f1, f2.ext ⟨List.prefix_refl _, e4.fz⟩⟩
        · show ρ.length = (c2.take st.cs.length).length
          rw [List.length_take, c.2.2, r.cl]
          omega
        · have q1 := r5.cell i c0 b e1 (by rw [eρ]; exact e2)
          rw [eρ] at q1
          exact q1
      · have q1 := y7.cut (n := st.cs.length) (Same.refl F3) c.1
        rw [eρ] at q1
        exact q1
    · rw [if_neg c] at p
      exact p.elim
  | ok d c2 =>
    rw [q] at p
    cases d with
    | non =>
      simp only at p
      intro ρ3 F3 H3 v x3 r3 rv3
      cases rv3
      refine ⟨rfl, ?_⟩
      cases q2 : lastIns c2 with
      | none => rw [q2] at p; exact p.elim
      | some z =>
        obtain ⟨c3, C, ks, es⟩ := z
        rw [q2] at p
        simp only at p
        by_cases c : C = cn ∧ c3.length = st.cs.length ∧ belows st.cs.length es = true ∧ c3.all (belowC st.cs.length) = true
        · rw [if_pos c] at p
          obtain ⟨rfl, h1, h2, h3⟩ := c
          have e := lastIns_eq q2
          subst e
          have r4 := r2.after x3 r3
          obtain ⟨F', x5, r5, rv5⟩ := Rel.freezeO (a := x) (env0 := st.env) (cs0 := st.cs) r rfl (x12.trans x3) r4 h1 (x3.at hat) h2 h3
          exact p ρ F' H3 _ x5 r5 rv5
        · rw [if_neg c] at p
          exact p.elim
    | _ => exact p.elim
def eMake (cn : Nat) (fn : Fn) (g : Ax) : Ex := fun st => (g st).bind fun ds c1 => makeD cn fn ds c1
theorem de_make {cn k : Nat} {fn : Fn} {f : Addr} {fd : FuncData} {ps : List Str} {x : Str} (hW : Flat W) (tk : Takes X W) (M : Mk X.K (G.K.κ cn) f) (hF : FnOk X.prog X.w X.K X.mg X.base (L2.CX X.prog X.w) k f fd ps (spF G.K ps.length fn)) (hr : Room (k + 1) X.A) (hg : Gl X x) (hm : X.mg x = some (.ref (G.K.κ cn))) (hb : Binds X.K fd ps [])
    (ha : PA X (e :: es) (tAs G W g)) (hlen : ∀ st ds c1, g st = .ok ds c1 → ds.length + 1 = ps.length) (hdb : (x == ("__debug__" : Str)) = false := by decide) (he : starEach (e :: es) X.env = (false, eval e X.env) :: starEach es X.env := by rfl) (hpl : (backTo pos (starEach es X.env)).any (·.1) = false := by rfl) :
    PE X (.Call (.Name x p) (e :: es) [] pos) (tE G W (eMake cn fn g)) := by
  refine (pe_make M hF hr hg hm hb .nil (passF tk hW) ha hdb he hpl).impV ?_
  rintro σ H Q ⟨ρ, F, st, r, p⟩
  unfold eMake at p
  refine ⟨ρ, F, st, r, ?_⟩
  cases q : g st with
  | no => rw [q] at p; exact p.elim
  | ex e' cs => rw [q] at p; exact p
  | ok ds c1 =>
    rw [q] at p
    have p : Post RV G W ρ F st.env σ Q (makeD cn fn ds c1) := p
    intro ρ1 F1 H1 vs x1 r1 rv1 x dx nx ndx ne
    rw [List.append_nil]
    exact make_of (st := ⟨st.env, c1⟩) hW r1 rv1 (hlen _ _ _ q) nx ndx ne (Post.ext x1 p)
/-! ### keywords alone -/
theorem _root_.L2.PK.impV {X : Cx} {kws : List Keyword} {t t' : TA} (h : PK X kws t) (m : ∀ σ H Q, t' σ H Q → t σ H Q) : PK X kws t' := ⟨fun pos pins s σ H Q I hw => h.run pos pins s σ H Q I (m _ _ _ hw)⟩
theorem dk_nil : PK X [] (tAs G W aNil) := pk_nil.impV fun σ H Q ⟨ρ, F, st, r, p⟩ => p.here r .nil
theorem dk_cons {nm : Option Str} {kpos : Pos} {kws : List Keyword} {f : Ex} (h : PE X e (tE G W f)) (hr : PK X kws (tAs G W g)) : PK X (⟨nm, e, kpos⟩ :: kws) (tAs G W (aCons f g)) :=
  (pk_cons h hr).impV fun σ H Q ⟨ρ, F, st, r, p⟩ => seqX r p fun ρ1 F1 H1 x c1 v x1 r1 rv1 p1 => seqX (st := ⟨st.env, c1⟩) r1 p1 fun ρ2 F2 H2 xs c2 vs x2 r2 rv2 p2 => p2.here (st := ⟨st.env, c2⟩) r2 (.cons (rv1.ext x2) rv2)
theorem pe_kw0 {CX : CXT} {E : XK} {k : Nat} {f : Addr} {fd : FuncData} {ps ks : List Str} {sp : Sp} {x : Str} {kws : List Keyword} {tk : TA} {gg : List Value → List Value → List Value} {gV : List V → List V → List V}
    (hF : FnOk X.prog X.w X.K X.mg X.base CX k f fd ps sp) (hr : Room k X.A) (hg : Gl X x) (hm : X.mg x = some (.ref f)) (hk : PySem.W.keepIn X.K (.ref f) = true) (hb : KBn X.K fd ps 0 ks gg gV) (hx : Passes CX X E) (hkw : PK X kws tk)
    (hall : (backToKw pos (keywordEach kws X.env)).all (·.1.isSome) = true := by rfl) (hks : (backToKw pos (keywordEach kws X.env)).filterMap (·.1) = ks := by rfl) (hdb : (x == ("__debug__" : Str)) = false := by decide)
    (hpl : ((backTo pos (starEach [] X.env)).any (·.1) || (backToKw pos (keywordEach kws X.env)).any (·.1.isNone)) = false := by rfl) :
    PE X (.Call (.Name x p) [] kws pos) (fun σ H Q => tk σ H fun zs H2 => zs.length = ks.length ∧ sp (gV [] zs) H2 Q E) := by
  constructor
  intro pins s σ H Q I h
  refine wpAny_Call_Name_kw (ld_glob I hg hm ?_ hdb)
  refine PySem.W.callWith_KW0 (h₀ := X.base) I.ok.mod.kin hk hall (thn (hkw.run pos pins s σ H _ I h) ?_) hpl
  rintro ws s2 ⟨zs, H2, I2, rz, hl, q2⟩
  refine ⟨I2.kIn, ?_⟩
  rw [hks]
  have hlw : ws.length = ks.length := by rw [← rz.length]; exact hl
  have rr := hb.rel (vs := []) (us := []) .nil rz
  refine wpAny_call (codeAny_mono (hF.run X.A X.stack s2 H2 ⟨[], ks.zip ws⟩ (gg [] ws) (gV [] zs) Q E hr I2.env0 (hb.to s2 [] ws I2.kIn rfl hlw) rr q2) ?_)
  intro res s' hq
  match res, hq with
  | .error er, hq => exact hx pins σ H2 s2 er s' I2 hq
  | .ok (.ret u), hq => exact I2.after hq
  | .ok .next, hq => exact hq.elim
  | .ok .brk, hq => exact hq.elim
  | .ok .cont, hq => exact hq.elim
/-- the parameters' order: the i-th parameter is the ix[i]-th keyword -/
def permD (ix : List Nat) (ds : List D) : List D := ix.map fun i => ds.getD i .non
def permV (ix : List Nat) (vs : List V) : List V := ix.map fun i => vs.getD i .non
theorem perm_rel {K : Kt} {ρ : List Addr} {F : Hp} {ds : List D} {vs : List V} (h : RVs K ρ F ds vs) : ∀ ix : List Nat, (∀ i ∈ ix, i < ds.length) → RVs K ρ F (permD ix ds) (permV ix vs)
  | [], _ => .nil
  | i :: ix, hi => by
    refine .cons ?_ (perm_rel h ix fun j hj => hi j (List.mem_cons_of_mem _ hj))
    have h1 : i < ds.length := hi i List.mem_cons_self
    obtain ⟨v, e1, e2⟩ := h.get (List.getElem?_eq_getElem h1)
    show RV K ρ F (ds.getD i D.non) (vs.getD i V.non)
    rw [List.getD_eq_getElem?_getD, List.getD_eq_getElem?_getD, List.getElem?_eq_getElem h1, e1]
    exact e2
def eCallK (n : Nat) (fn : Fn) (ix : List Nat) (g : Ax) : Ex := fun st => (g st).bind fun ds c1 => callV n fn (permD ix ds) c1
theorem de_callK {n k : Nat} {fn : Fn} {f : Addr} {fd : FuncData} {ps ks : List Str} {x : Str} {kws : List Keyword} {ix : List Nat} {gg : List Value → List Value → List Value} (hW : Flat W) (tk : Takes X W)
    (hF : FnOk X.prog X.w X.K X.mg X.base (L2.CX X.prog X.w) k f fd ps (spF G.K ps.length fn)) (hr : Room k X.A) (hg : Gl X x) (hm : X.mg x = some (.ref f)) (hk : PySem.W.keepIn X.K (.ref f) = true) (hb : KBn X.K fd ps 0 ks gg (fun _ zs => permV ix zs)) (hkw : PK X kws (tAs G W g))
    (hlen : ∀ st ds c1, g st = .ok ds c1 → ds.length = ks.length) (hix : ∀ i ∈ ix, i < ks.length) (hixl : ix.length = ps.length)
    (hall : (backToKw pos (keywordEach kws X.env)).all (·.1.isSome) = true := by rfl) (hks : (backToKw pos (keywordEach kws X.env)).filterMap (·.1) = ks := by rfl) (hdb : (x == ("__debug__" : Str)) = false := by decide)
    (hpl : ((backTo pos (starEach [] X.env)).any (·.1) || (backToKw pos (keywordEach kws X.env)).any (·.1.isNone)) = false := by rfl) :
    PE X (.Call (.Name x p) [] kws pos) (tE G W (eCallK n fn ix g)) := by
  refine (pe_kw0 hF hr hg hm hk hb (passF tk hW) hkw hall hks hdb hpl).impV ?_
  rintro σ H Q ⟨ρ, F, st, r, p⟩
  unfold eCallK at p
  refine ⟨ρ, F, st, r, ?_⟩
  cases q : g st with
  | no => rw [q] at p; exact p.elim
  | ex e' cs => rw [q] at p; exact p
  | ok ds c1 =>
    rw [q] at p
    have p : Post RV G W ρ F st.env σ Q (callV n fn (permD ix ds) c1) := p
    intro ρ1 F1 H1 vs x1 r1 rv1
    have hl := hlen _ _ _ q
    refine ⟨by rw [← rv1.length]; exact hl, ?_⟩
    have hp := perm_rel rv1 ix fun i hi => by rw [hl]; exact hix i hi
    obtain ⟨a, b, c, d, e1, e2, e3, e4⟩ := callV_of (st := ⟨st.env, c1⟩) (m := ps.length) (n := n) (fn := fn) r1 hp (by unfold permD; rw [List.length_map]; exact hixl) (Post.ext x1 p)
    refine ⟨a, b, c, d, e1, e2, e3, ?_⟩
    cases q2 : fn c d with
    | no => rw [q2] at e4; exact e4
    | ok d2 c2 => rw [q2] at e4; exact e4
    | ex e' c2 =>
      rw [q2] at e4
      intro ρ5 F5 H5 cls dx y5 r5 xa5
      exact hW _ _ _ _ _ (e4 ρ5 F5 H5 cls dx y5 r5 xa5)
end
end VL

/-! VLD: defs by name, for printed proofs -/
namespace VL
open PySem L2 PyProof.Rows
/-- as many values -/
def ALen (n : Nat) (g : Ax) : Prop := ∀ st ds c1, g st = .ok ds c1 → ds.length = n
theorem alen_nil : ALen 0 aNil := by
  intro st ds c1 h
  cases h
  rfl
theorem alen_cons {n : Nat} {f : Ex} {g : Ax} (h : ALen n g) : ALen (n + 1) (aCons f g) := by
  intro st ds c1 e
  unfold aCons at e
  cases q : f st with
  | no => rw [q] at e; cases e
  | ex _ _ => rw [q] at e; cases e
  | ok x c2 =>
    rw [q] at e
    have e : (g ⟨st.env, c2⟩).bind (fun xs c2 => Out.ok (x :: xs) c2) = .ok ds c1 := e
    cases q2 : g ⟨st.env, c2⟩ with
    | no => rw [q2] at e; cases e
    | ex _ _ => rw [q2] at e; cases e
    | ok xs c3 =>
      rw [q2] at e
      cases e
      rw [List.length_cons, h _ _ _ q2]
/-- a def (or method) of the text as it stands behind the top; dV its defaults -/
structure FunA (K : PySem.W.Frag) (x qual : Str) (st : Stmt) (dV : Value) (f : Addr) (fd : FuncData) : Prop where
  ex : ∃ (oc : Value) (od : Option Addr) (kV doc pm : Value) (an : Option Addr) (cdv ct : Value) (osl : Array (Option Value)),
    fd = PySem.W.fnOf x qual (defArgs st) (defBody st) (defScope st) dV kV doc pm an cdv ct ∧ K.lookup f = some ⟨oc, od, .func fd, osl⟩ ∧ PySem.W.codeIn K cdv qual = true
section
variable {P : Program} {w : World} {K : Kt} {mg : Str → Option Value} {base : Heap} {x qual : Str} {st : Stmt} {f : Addr} {fd : FuncData} {ps N : List Str} {k : Nat} {fn fn' : Fn} {body : Sx}
theorem funA_mk {oc : Value} {od an : Option Addr} {osl : Array (Option Value)} {dV kV doc pm cdv ct : Value} (l : K.K.lookup f = some ⟨oc, od, .func (PySem.W.fnOf x qual (defArgs st) (defBody st) (defScope st) dV kV doc pm an cdv ct), osl⟩) (c : PySem.W.codeIn K.K cdv qual = true) :
    FunA K.K x qual st dV f (PySem.W.fnOf x qual (defArgs st) (defBody st) (defScope st) dV kV doc pm an cdv ct) := ⟨⟨oc, od, kV, doc, pm, an, cdv, ct, osl, rfl, l, c⟩⟩
/-- every parameter is given, by place -/
theorem FunA.binds (Fu : FunA K.K x qual st .none f fd) (h : ∀ (kV doc pm : Value) (an : Option Addr) (cdv ct : Value) (us : List Value), us.length = ps.length → bindArgs (PySem.W.fnOf x qual (defArgs st) (defBody st) (defScope st) .none kV doc pm an cdv ct) ⟨us, []⟩ = pure (ps.zip us)) : Binds K.K fd ps [] := by
  obtain ⟨oc, od, kV, doc, pm, an, cdv, ct, osl, rfl, lk, hcd⟩ := Fu.ex
  exact .all (h kV doc pm an cdv ct)
/-- .. by keywords -/
theorem FunA.kbn {ks : List Str} {ix : List Nat} (Fu : FunA K.K x qual st .none f fd) (h : ∀ (kV doc pm : Value) (an : Option Addr) (cdv ct : Value) (ws : List Value), ws.length = ks.length → bindArgs (PySem.W.fnOf x qual (defArgs st) (defBody st) (defScope st) .none kV doc pm an cdv ct) ⟨[], ks.zip ws⟩ = pure (ps.zip (ix.map fun i => ws.getD i .none)))
    (hix : ∀ i ∈ ix, i < ks.length) : KBn K.K fd ps 0 ks (fun _ ws => ix.map fun i => ws.getD i .none) (fun _ zs => permV ix zs) := by
  obtain ⟨oc, od, kV, doc, pm, an, cdv, ct, osl, rfl, lk, hcd⟩ := Fu.ex
  refine ⟨fun s us ws _ hu hw => ?_, fun {vs us zs ws} _ rz => ?_⟩
  · obtain rfl : us = [] := List.length_eq_zero_iff.mp hu
    exact .of_eq (h kV doc pm an cdv ct ws hw)
  · have : ∀ l : List Nat, Vals (permV l zs) (l.map fun i => ws.getD i .none) := by
      intro l
      induction l with
      | nil => exact .nil
      | cons i l ih =>
        refine .cons ?_ ih
        show RelV (zs.getD i .non) (ws.getD i .none)
        rw [List.getD_eq_getElem?_getD, List.getD_eq_getElem?_getD]
        cases q : zs[i]? with
        | none => rw [rz.none_of q]; rfl
        | some z =>
          obtain ⟨u, e1, e2⟩ := rz.get q
          rw [e1]
          exact e2
    exact this ix
/-- a def with defaults, every parameter given by place -/
theorem FunA.bindsD {T : Addr} {o : Obj} {its : List Value} {m : Nat} (Fu : FunA K.K x qual st (.ref T) f fd) (lT : K.K.lookup T = some o) (oT : o.data = .seq its.toArray m)
    (h : ∀ (kV doc pm : Value) (an : Option Addr) (cdv ct : Value) (us : List Value), us.length = ps.length → ∃ k, bindArgs (PySem.W.fnOf x qual (defArgs st) (defBody st) (defScope st) (.ref T) kV doc pm an cdv ct) ⟨us, []⟩ = seqItems? (.ref T) >>= k ∧ k (some its.toArray) = pure (ps.zip us)) : Binds K.K fd ps [] := by
  obtain ⟨oc, od, kV, doc, pm, an, cdv, ct, osl, rfl, lk, hcd⟩ := Fu.ex
  intro s us KX hl
  rw [List.append_nil] at hl ⊢
  obtain ⟨k, e1, e2⟩ := h kV doc pm an cdv ct us hl
  refine BindsTo.of_looks fun M => ?_
  rw [e1]
  exact looks_items KX lT oT (PySem.W.Looks.of_pure e2)
theorem okA {dV : Value} (Fu : FunA K.K x qual st dV f fd) (S : FnScope N ps (defScope st))
    (hbody : ∀ (G : Gx), G.K = K → ∀ (cdv : Value) (A : Around) (outer : List Env) (s : Shared) (H : Hp) (E : XK), Room k (A.deeper (envOfC qual (defScope st) s.heap.objs.size f cdv)) →
      PSs (cxOf (L2.CX P w) P w K.K mg base N qual (defScope st) f cdv A outer s H E) (defBody st) (tS G (fun cls d _ H' => E cls d H') body)) :
    FnOk P w K.K mg base (L2.CX P w) (k + 1) f fd ps (spF K ps.length (runF N.length body)) := by
  obtain ⟨oc, od, kV, doc, pm, an, cdv, ct, osl, rfl, lk, hcd⟩ := Fu.ex
  refine fn_of lk hcd S (fun vs H Q E h => spF_len h) ?_
  intro A outer s H vs Q E hr h
  obtain ⟨G, e, t⟩ := body_of h
  exact ⟨_, hbody G e cdv A outer s H E hr, t⟩
/-- the def x of the text is there: its statement, its binding -/
structure Txt1 (K : Kt) (mg : Str → Option Value) (x : Str) (st : Stmt) (ps : List Str) : Prop where
  ex : ∃ (f : Addr) (fd : FuncData), mg x = some (.ref f) ∧ PySem.W.keepIn K.K (.ref f) = true ∧ FunA K.K x x st .none f fd ∧ Binds K.K fd ps []
/-- the def x keeps fn's promise at level k -/
structure Def (P : Program) (w : World) (K : Kt) (mg : Str → Option Value) (base : Heap) (x : Str) (st : Stmt) (k : Nat) (ps : List Str) (fn : Fn) : Prop where
  ex : ∃ (f : Addr) (fd : FuncData), mg x = some (.ref f) ∧ PySem.W.keepIn K.K (.ref f) = true ∧ FunA K.K x x st .none f fd ∧ Binds K.K fd ps [] ∧ FnOk P w K.K mg base (L2.CX P w) k f fd ps (spF K ps.length fn)
theorem mkDef (t : Txt1 K mg x st ps) (S : FnScope N ps (defScope st))
    (hbody : ∀ (f : Addr) (G : Gx), G.K = K → ∀ (cdv : Value) (A : Around) (outer : List Env) (s : Shared) (H : Hp) (E : XK), Room k (A.deeper (envOfC x (defScope st) s.heap.objs.size f cdv)) →
      PSs (cxOf (L2.CX P w) P w K.K mg base N x (defScope st) f cdv A outer s H E) (defBody st) (tS G (fun cls d _ H' => E cls d H') body)) :
    Def P w K mg base x st (k + 1) ps (runF N.length body) := by
  obtain ⟨f, fd, h1, h2, h3, h4⟩ := t.ex
  exact ⟨f, fd, h1, h2, h3, h4, okA h3 S fun G e cdv A outer s H E hr => hbody f G e cdv A outer s H E hr⟩
theorem Def.trim (d : Def P w K mg base x st k ps fn) : Def P w K mg base x st k ps (trimF fn) := by
  obtain ⟨f, fd, h1, h2, h3, h4, h5⟩ := d.ex
  exact ⟨f, fd, h1, h2, h3, h4, fnTrim h5⟩
theorem Def.ref (d : Def P w K mg base x st k ps fn) (h : ∀ ds cs, fn' ds cs ≠ .no → fn ds cs = fn' ds cs) : Def P w K mg base x st k ps fn' := by
  obtain ⟨f, fd, h1, h2, h3, h4, h5⟩ := d.ex
  exact ⟨f, fd, h1, h2, h3, h4, fnRef h5 h⟩
/-- a class of the text, made by its __init__ -/
structure TxtC (K : Kt) (mg : Str → Option Value) (x : Str) (cn : Nat) (st : Stmt) (ps : List Str) : Prop where
  ex : ∃ (f : Addr) (fd : FuncData), mg x = some (.ref (K.κ cn)) ∧ Mk K.K (K.κ cn) f ∧ (∃ dV, FunA K.K "__init__" (x ++ ".__init__") st dV f fd) ∧ Binds K.K fd ps []
structure DefC (P : Program) (w : World) (K : Kt) (mg : Str → Option Value) (base : Heap) (x : Str) (cn k : Nat) (ps : List Str) (fn : Fn) : Prop where
  ex : ∃ (f : Addr) (fd : FuncData), mg x = some (.ref (K.κ cn)) ∧ Mk K.K (K.κ cn) f ∧ Binds K.K fd ps [] ∧ FnOk P w K.K mg base (L2.CX P w) k f fd ps (spF K ps.length fn)
theorem mkDefC {cn : Nat} (t : TxtC K mg x cn st ps) (S : FnScope N ps (defScope st))
    (hbody : ∀ (f : Addr) (G : Gx), G.K = K → ∀ (cdv : Value) (A : Around) (outer : List Env) (s : Shared) (H : Hp) (E : XK), Room k (A.deeper (envOfC (x ++ ".__init__") (defScope st) s.heap.objs.size f cdv)) →
      PSs (cxOf (L2.CX P w) P w K.K mg base N (x ++ ".__init__") (defScope st) f cdv A outer s H E) (defBody st) (tS G (fun cls d _ H' => E cls d H') body)) :
    DefC P w K mg base x cn (k + 1) ps (runF N.length body) := by
  obtain ⟨f, fd, h1, h2, ⟨dV, h3⟩, h4⟩ := t.ex
  exact ⟨f, fd, h1, h2, h4, okA h3 S fun G e cdv A outer s H E hr => hbody f G e cdv A outer s H E hr⟩
theorem DefC.ref {cn : Nat} (d : DefC P w K mg base x cn k ps fn) (h : ∀ ds cs, fn' ds cs ≠ .no → fn ds cs = fn' ds cs) : DefC P w K mg base x cn k ps fn' := by
  obtain ⟨f, fd, h1, h2, h3, h5⟩ := d.ex
  exact ⟨f, fd, h1, h2, h3, fnRef h5 h⟩
end
section
variable {X : Cx} {G : Gx} {W : WX} {e : Expr} {es : List Expr} {g : Ax} {pos p : Pos} {x : Str} {st : Stmt} {k : Nat} {ps : List Str} {fn : Fn}
theorem de_callD (n : Nat) (d : Def X.prog X.w G.K X.mg X.base x st k ps fn) (hK : X.K = G.K.K) (tk : Takes X W) (hr : Room k X.A) (ha : PA X (e :: es) (tAs G W g)) (hl : ALen ps.length g) (hg : Gl X x := by rfl) (hdb : (x == ("__debug__" : Str)) = false := by decide) (he : starEach (e :: es) X.env = (false, eval e X.env) :: starEach es X.env := by rfl) (hpl : (backTo pos (starEach es X.env)).any (·.1) = false := by rfl) :
    PE X (.Call (.Name x p) (e :: es) [] pos) (tE G W (eCall n fn g)) := by
  obtain ⟨f, fd, h1, h2, _, h3, h5⟩ := d.ex
  rw [← hK] at h2 h3 h5
  exact de_call hK.symm tk h5 hr hg h1 h2 h3 ha hl hdb he hpl
theorem de_callDA (d : Def X.prog X.w G.K X.mg X.base x st k ps fn) (hK : X.K = G.K.K) (tk : Takes X W) (hr : Room k X.A) (ha : PA X (e :: es) (tAs G W g)) (hl : ALen ps.length g) (hg : Gl X x := by rfl) (hdb : (x == ("__debug__" : Str)) = false := by decide) (he : starEach (e :: es) X.env = (false, eval e X.env) :: starEach es X.env := by rfl) (hpl : (backTo pos (starEach es X.env)).any (·.1) = false := by rfl) :
    PE X (.Call (.Name x p) (e :: es) [] pos) (tE G W (eCallAll fn g)) := by
  obtain ⟨f, fd, h1, h2, _, h3, h5⟩ := d.ex
  rw [← hK] at h2 h3 h5
  exact de_callAll hK.symm tk h5 hr hg h1 h2 h3 ha hl hdb he hpl
theorem de_callKD {kws : List Keyword} {ks : List Str} (n : Nat) (ix : List Nat) (d : Def X.prog X.w G.K X.mg X.base x st k ps fn) (hK : X.K = G.K.K) (hW : Flat W) (tk : Takes X W) (hr : Room k X.A) (hkw : PK X kws (tAs G W g)) (hl : ALen ks.length g) (hix : ∀ i ∈ ix, i < ks.length) (hixl : ix.length = ps.length)
    (hbind : ∀ (kV doc pm : Value) (an : Option Addr) (cdv ct : Value) (ws : List Value), ws.length = ks.length → bindArgs (PySem.W.fnOf x x (defArgs st) (defBody st) (defScope st) .none kV doc pm an cdv ct) ⟨[], ks.zip ws⟩ = pure (ps.zip (ix.map fun i => ws.getD i .none)))
    (hg : Gl X x := by rfl) (hall : (backToKw pos (keywordEach kws X.env)).all (·.1.isSome) = true := by rfl) (hks : (backToKw pos (keywordEach kws X.env)).filterMap (·.1) = ks := by rfl) (hdb : (x == ("__debug__" : Str)) = false := by decide)
    (hpl : ((backTo pos (starEach [] X.env)).any (·.1) || (backToKw pos (keywordEach kws X.env)).any (·.1.isNone)) = false := by rfl) :
    PE X (.Call (.Name x p) [] kws pos) (tE G W (eCallK n fn ix g)) := by
  obtain ⟨f, fd, h1, h2, h4, h3, h5⟩ := d.ex
  have kb := h4.kbn hbind hix
  rw [← hK] at h2 h3 h5 kb
  exact de_callK hW tk h5 hr hg h1 h2 kb hkw hl hix hixl hall hks hdb hpl
theorem de_makeD {cn : Nat} (d : DefC X.prog X.w G.K X.mg X.base x cn k ps fn) (hK : X.K = G.K.K) (hW : Flat W) (tk : Takes X W) (hr : Room (k + 1) X.A) (ha : PA X (e :: es) (tAs G W g)) {m : Nat} (hl : ALen m g) (hm : m + 1 = ps.length) (hg : Gl X x := by rfl) (hdb : (x == ("__debug__" : Str)) = false := by decide) (he : starEach (e :: es) X.env = (false, eval e X.env) :: starEach es X.env := by rfl) (hpl : (backTo pos (starEach es X.env)).any (·.1) = false := by rfl) :
    PE X (.Call (.Name x p) (e :: es) [] pos) (tE G W (eMake cn fn g)) := by
  obtain ⟨f, fd, h1, h2, h3, h5⟩ := d.ex
  rw [← hK] at h2 h3 h5
  exact de_make hW tk h2 h5 hr hg h1 h3 ha (fun st ds c1 e => by rw [hl st ds c1 e, hm]) hdb he hpl
end
/-! ### y = [..] on one line, y a plain local -/
section
variable {X : Cx} {G : Gx} {W : WX} {tg iter elt : Expr} {ifs : List Expr} {scope : Scope} {own : List (Str × Nat)} {pos spos py : Pos} {src : Ix} {sl : List Nat} {g : Gt} {t : Tx} {f : Ex} {i : Nat} {y : Str}
theorem ds_setLc (hc : X.calm = true) (hN : X.N.Nodup) (hi : PI X tg iter (tI G W src)) (ok : BlkOk X.N X.env.scope scope own) (hsl : ∀ i ∈ sl, i ∈ own.map (·.2))
    (hg : ∀ (s : Shared) (H : Hp) (C : Addr) (cl : List (Str × Addr)) (fp : List Addr), PG (X.blk s H scope (compEnvC scope cl C X.env) fp) tg (tG G sl g)) (ht : ∀ (s : Shared) (H : Hp) (C : Addr) (cl : List (Str × Addr)) (fp : List Addr), PTs (X.blk s H scope (compEnvC scope cl C X.env) fp) ifs (tTs G W0 t))
    (he : ∀ (s : Shared) (H : Hp) (C : Addr) (cl : List (Str × Addr)) (fp : List Addr), PE (X.blk s H scope (compEnvC scope cl C X.env) fp) elt (tE G W0 f))
    (hsw : swapsWith (.ListComp elt [⟨tg, iter, ifs, 0⟩] scope pos) (some (.Name y py)) spos.line X.env = pure true) (hy : X.N[i]? = some y := by rfl) (hyl : X.env.scope.names.lookup y = some .local := by rfl) (hs : ∀ x, foldedSetIterable iter X.env x = pure x := by intro _; rfl) :
    PS X (.Assign [.Name y py] (.ListComp elt [⟨tg, iter, ifs, 0⟩] scope pos) spos) (tS G W (sAsg (eLc src g t f (own.map (·.2))) (gNm i))) := by
  refine (ps_setLc (i := i) hc hN hy hyl hsw hi ok hg ht he hs).impV ?_
  rintro E σ H ⟨ρ, F, st, r, p⟩
  refine eLc_of hsl σ H _ (seqS (f := eLc src g t f (own.map (·.2))) r p fun ρ1 F1 H1 x c1 v x1 r1 rv1 p1 => ?_)
  exact p1 ρ1 F1 _ H1 Ext.refl (r1.slot rv1)
theorem ds_setLcLoc (hc : X.calm = true) (hN : X.N.Nodup) (hi : PI X tg iter (tI G W src)) (ok : BlkOk X.N X.env.scope scope own) (hsl : ∀ i ∈ sl, i ∈ own.map (·.2))
    (hg : ∀ (s : Shared) (H : Hp) (C : Addr) (cl : List (Str × Addr)) (fp : List Addr), PG (X.blk s H scope (compEnvC scope cl C X.env) fp) tg (tG G sl g)) (ht : ∀ (s : Shared) (H : Hp) (C : Addr) (cl : List (Str × Addr)) (fp : List Addr), PTs (X.blk s H scope (compEnvC scope cl C X.env) fp) ifs (tTs G W0 t))
    (he : ∀ (s : Shared) (H : Hp) (C : Addr) (cl : List (Str × Addr)) (fp : List Addr), PE (X.blk s H scope (compEnvC scope cl C X.env) fp) elt (tE G W0 f))
    (hsw : swapsWith (.ListComp elt [⟨tg, iter, ifs, 0⟩] scope pos) (some (.Name y py)) spos.line X.env = pure true) (hy : X.N[i]? = some y := by rfl) (hyl : X.env.scope.names.lookup y = some .local := by rfl) (hs : ∀ x, foldedSetIterable iter X.env x = pure x := by intro _; rfl) :
    PS X (.Assign [.Name y py] (.ListComp elt [⟨tg, iter, ifs, 0⟩] scope pos) spos) (tS G W (sAsg (eLcLoc src g t f (own.map (·.2))) (gNm i))) := by
  refine (ps_setLc (i := i) hc hN hy hyl hsw hi ok hg ht he hs).impV ?_
  rintro E σ H ⟨ρ, F, st, r, p⟩
  refine eLcLoc_of hsl σ H _ (seqS (f := eLcLoc src g t f (own.map (·.2))) r p fun ρ1 F1 H1 x c1 v x1 r1 rv1 p1 => ?_)
  exact p1 ρ1 F1 _ H1 Ext.refl (r1.slot rv1)
end
/-! ### comparisons as tests -/
section
variable {X : Cx} {G : Gx} {W : WX} {a b : Expr} {fa fb : Ex} {pos : Pos}
def tCmp' (g : F2) (fa fb : Ex) : Tx := fun st => (eOp g fa fb st).bind fun x c1 => match x with
  | .bl k => .ok k c1
  | _ => .no
theorem dt_cmp {op : CmpOp} {r : R2} {g : F2} (ho : OpR X (compareOp op) r) (hv : V2 G W r g) (ha : PE X a (tE G W fa)) (hb : PE X b (tE G W fb)) (hm : behindInMarks op b = false) : PT X (.Compare a [op] [b] pos) (tTs G W (tCmp' g fa fb)) := by
  refine (pt_cmpR ho ha hb hm).impV ?_
  rintro σ H Q ⟨ρ, F, st, r, p⟩
  refine tOp_of hv σ H _ (seqX (R := RV) r p fun ρ1 F1 H1 x c1 v x1 r1 rv1 p1 => ?_)
  cases rv1 with
  | bl k => exact ⟨k, rfl, p1.here (st := ⟨st.env, c1⟩) r1 rfl⟩
  | _ => exact p1.elim
theorem dt_eq (hK : X.K = G.K.K) (hu : X.A.units + 64 < cLine) (ha : PE X a (tE G W fa)) (hb : PE X b (tE G W fb)) : PT X (.Compare a [.Eq] [b] pos) (tTs G W (tCmp' (gEqB false) fa fb)) := dt_cmp (op_eqD hu) (by rw [hK]; exact v2_eq) ha hb (nomark _)
theorem dt_ne (hK : X.K = G.K.K) (hu : X.A.units + 64 < cLine) (ha : PE X a (tE G W fa)) (hb : PE X b (tE G W fb)) : PT X (.Compare a [.NotEq] [b] pos) (tTs G W (tCmp' (gEqB true) fa fb)) := dt_cmp (op_neD hu) (by rw [hK]; exact v2_ne) ha hb (nomark _)
theorem dt_lt (ha : PE X a (tE G W fa)) (hb : PE X b (tE G W fb)) : PT X (.Compare a [.Lt] [b] pos) (tTs G W (tCmp' gLt fa fb)) := dt_cmp (op_lt.or op_lt_str) v2_ord ha hb (nomark _)
theorem dt_le (ha : PE X a (tE G W fa)) (hb : PE X b (tE G W fb)) : PT X (.Compare a [.LtE] [b] pos) (tTs G W (tCmp' gLe fa fb)) := dt_cmp (op_le.or op_le_str) v2_ord ha hb (nomark _)
theorem dt_gt (ha : PE X a (tE G W fa)) (hb : PE X b (tE G W fb)) : PT X (.Compare a [.Gt] [b] pos) (tTs G W (tCmp' gGt fa fb)) := dt_cmp (op_gt.or op_gt_str) v2_ord ha hb (nomark _)
theorem dt_ge (ha : PE X a (tE G W fa)) (hb : PE X b (tE G W fb)) : PT X (.Compare a [.GtE] [b] pos) (tTs G W (tCmp' gGe fa fb)) := dt_cmp (op_ge.or op_ge_str) v2_ord ha hb (nomark _)
theorem is_of {neg : Bool} {ρ : List Addr} {F : Hp} {st : S} {σ : L2.St} {H : Hp} {x y : D} {v w : V} {Q : VK} (r : Rel G ρ F st σ H) (h1 : RV G.K ρ F x v) (h2 : RV G.K ρ F y w) (p : Post RV G W ρ F st.env σ Q (gIs neg st.cs x y)) :
    (w = .non ∧ Q (.bl (if neg then !decide (v = .non) else decide (v = .non))) H) ∨ ∃ i j : Bool, v = .bl i ∧ w = .bl j ∧ Q (.bl (if neg then !decide (i = j) else decide (i = j))) H := by
  unfold gIs at p
  split at p
  · cases h2
    refine .inl ⟨rfl, ?_⟩
    rw [isNon_of h1]
    exact p.here r (.bl _)
  · cases h1; cases h2
    exact .inr ⟨_, _, rfl, rfl, p.here r (.bl _)⟩
  · exact p.elim
theorem dt_is (ha : PE X a (tE G W fa)) (hb : PE X b (tE G W fb)) : PT X (.Compare a [.Is] [b] pos) (tTs G W (tCmp' (gIs false) fa fb)) := dt_cmp (op_isN.or op_isBl) (fun ρ F st σ H x y v w Q r h1 h2 p => is_of r h1 h2 p) ha hb (nomark _)
theorem dt_isnot (ha : PE X a (tE G W fa)) (hb : PE X b (tE G W fb)) : PT X (.Compare a [.IsNot] [b] pos) (tTs G W (tCmp' (gIs true) fa fb)) := dt_cmp (op_notN.or op_notBl) (fun ρ F st σ H x y v w Q r h1 h2 p => is_of r h1 h2 p) ha hb (nomark _)
theorem dt_in (hK : X.K = G.K.K) (ha : PE X a (tE G W fa)) (hb : PE X b (tE G W fb)) (hm : behindInMarks .In b = false := by rfl) : PT X (.Compare a [.In] [b] pos) (tTs G W (tCmp' (gIn false) fa fb)) :=
  dt_cmp (op_in_sign.or op_in_seq) (by rw [hK]; exact fun ρ F st σ H x y v w Q r h1 h2 p => in_of r h1 h2 p) ha hb hm
theorem dt_notin (hK : X.K = G.K.K) (ha : PE X a (tE G W fa)) (hb : PE X b (tE G W fb)) (hm : behindInMarks .NotIn b = false := by rfl) : PT X (.Compare a [.NotIn] [b] pos) (tTs G W (tCmp' (gIn true) fa fb)) :=
  dt_cmp (op_notIn_sign.or op_notIn_seq) (by rw [hK]; exact fun ρ F st σ H x y v w Q r h1 h2 p => in_of r h1 h2 p) ha hb hm
end
end VL

/-! VLM: reckoning with the plain functions: comprehensions, loops -/
namespace VL
open PySem L2
theorem belows_append {n : Nat} : ∀ {xs ys : List D}, belows n (xs ++ ys) = (belows n xs && belows n ys)
  | [], ys => by simp [belows]
  | x :: xs, ys => by simp [belows, belows_append (xs := xs) (ys := ys), Bool.and_assoc]
theorem belows_all {n : Nat} : ∀ {xs : List D}, belows n xs = xs.all (below n)
  | [] => rfl
  | x :: xs => by simp [belows, belows_all (xs := xs)]
theorem belows_of {n : Nat} {xs : List D} (h : ∀ x ∈ xs, below n x = true) : belows n xs = true := by
  rw [belows_all, List.all_eq_true]
  exact h
theorem lastCell_snoc {cs : List Cell} {ds : List D} : lastCell (cs ++ [.lst ds]) = some (cs, ds) := by
  unfold lastCell
  rw [List.reverse_append]
  simp
/-- one answer an item: none, or what is put in -/
inductive Picks (R : D → Option D → Prop) : List D → List D → Prop
  | nil : Picks R [] []
  | skip {d : D} {ds ys : List D} : R d none → Picks R ds ys → Picks R (d :: ds) ys
  | take {d y : D} {ds ys : List D} : R d (some y) → Picks R ds ys → Picks R (d :: ds) (y :: ys)
/-- what one turn of a comprehension does -/
def LcTurn (I : List Cell → Prop) (R : D → Option D → Prop) (g : Gt) (t : Tx) (f : Ex) (env : List (Option D)) (d : D) : Prop :=
  ∀ (cs : List Cell) (acc : List D), I cs → ∃ env1, g d ⟨env, cs ++ [.lst acc]⟩ = some ⟨env1, cs ++ [.lst acc]⟩ ∧
    ∃ b cs2, t ⟨env1, cs ++ [.lst acc]⟩ = .ok b (cs2 ++ [.lst acc]) ∧ I cs2 ∧ (b = false → R d none) ∧
      (b = true → ∃ y cs3, f ⟨env1, cs2 ++ [.lst acc]⟩ = .ok y (cs3 ++ [.lst acc]) ∧ I cs3 ∧ R d (some y))
theorem lcL_of {I : List Cell → Prop} {R : D → Option D → Prop} {g : Gt} {t : Tx} {f : Ex} {env : List (Option D)} {n : Nat} (hI : ∀ cs, I cs → cs.length = n) : ∀ (ds : List D) (cs : List Cell) (acc : List D), I cs → acc.length + ds.length < 16777216 → (∀ d ∈ ds, LcTurn I R g t f env d) →
    ∃ ys cs', lcL g t f keepAll env n ds (cs ++ [.lst acc]) = some (cs' ++ [.lst (acc ++ ys)]) ∧ I cs' ∧ Picks R ds ys
  | [], cs, acc, hi, _, _ => ⟨[], cs, by simp [lcL, keepAll], hi, .nil⟩
  | d :: ds, cs, acc, hi, hl, ht => by
    obtain ⟨env1, e1, b, cs2, e2, i2, h0, h1⟩ := ht d List.mem_cons_self cs acc hi
    have hl' : acc.length + ds.length + 1 < 16777216 := by simpa [Nat.add_assoc] using hl
    have ht' : ∀ d ∈ ds, LcTurn I R g t f env d := fun d hd => ht d (List.mem_cons_of_mem _ hd)
    cases b with
    | false =>
      obtain ⟨ys, cs', e5, i5, p5⟩ := lcL_of hI ds cs2 acc i2 (by omega) ht'
      refine ⟨ys, cs', ?_, i5, .skip (h0 rfl) p5⟩
      unfold lcL
      simp only [keepAll, if_true, e1, e2]
      exact e5
    | true =>
      obtain ⟨y, cs3, e3, i3, r3⟩ := h1 rfl
      have hlen : (acc ++ [y]).length = acc.length + 1 := by simp
      obtain ⟨ys, cs', e5, i5, p5⟩ := lcL_of hI ds cs3 (acc ++ [y]) i3 (by rw [hlen]; omega) ht'
      refine ⟨y :: ys, cs', ?_, i5, .take r3 p5⟩
      unfold lcL
      have hn := hI cs3 i3
      have g1 : (cs3 ++ [Cell.lst acc])[n]? = some (.lst acc) := by
        rw [List.getElem?_append_right (by omega), hn, Nat.sub_self]; rfl
      have g2 : (cs3 ++ [Cell.lst acc]).set n (.lst (acc ++ [y])) = cs3 ++ [.lst (acc ++ [y])] := by
        rw [List.set_append_right n _ (by omega), hn, Nat.sub_self]; rfl
      simp only [keepAll, if_true, e1, e2, e3, g1, g2]
      rw [if_pos (by omega), e5]
      simp
/-- a comprehension, frozen -/
theorem eLc_eval {I : List Cell → Prop} {R : D → Option D → Prop} {src : Ix} {g : Gt} {t : Tx} {f : Ex} {vs : List Nat} {st : S} {ds : List D} {c1 : List Cell} (hs : src st = .ok (ds, keepAll) c1) (hi : I c1) (hI : ∀ cs, I cs → cs.length = c1.length) (hl : ds.length < 16777216)
    (hb : ∀ cs, I cs → cs.all (belowC c1.length) = true) (hR : ∀ d y, R d (some y) → below c1.length y = true) (ht : ∀ d ∈ ds, LcTurn I R g t f (wipeD st.env vs) d) :
    ∃ ys cs', eLc src g t f vs st = .ok (.lst ys) cs' ∧ I cs' ∧ Picks R ds ys := by
  obtain ⟨ys, cs', e, i', p⟩ := lcL_of (n := c1.length) hI ds c1 [] hi (by simpa using hl) ht
  refine ⟨ys, cs', ?_, i', p⟩
  unfold eLc
  rw [hs]
  have bl : belows c1.length ys = true := by
    refine belows_of ?_
    have : ∀ {ds ys : List D}, Picks R ds ys → ∀ y ∈ ys, below c1.length y = true := by
      intro ds ys p
      induction p with
      | nil => intro y hy; cases hy
      | skip _ _ ih => exact ih
      | take r _ ih =>
        intro y hy
        rcases List.mem_cons.mp hy with rfl | hy
        · exact hR _ _ r
        · exact ih y hy
    exact this p
  show (match lcL g t f keepAll (wipeD st.env vs) c1.length ds (c1 ++ [.lst []]) with
    | some c2 => _
    | none => _) = _
  rw [e]
  simp only [List.nil_append, lastCell_snoc]
  rw [if_pos ⟨hI cs' i', bl, hb cs' i'⟩]
/-- .. that changes no cell: filter and map -/
theorem eLc_pure {src : Ix} {g : Gt} {t : Tx} {f : Ex} {vs : List Nat} {st : S} {ds : List D} {c1 : List Cell} {q : D → Bool} {h : D → D} (hs : src st = .ok (ds, keepAll) c1) (hl : ds.length < 16777216) (hb : c1.all (belowC c1.length) = true)
    (hh : ∀ d ∈ ds, q d = true → below c1.length (h d) = true)
    (ht : ∀ d ∈ ds, ∀ acc, ∃ env1, g d ⟨wipeD st.env vs, c1 ++ [.lst acc]⟩ = some ⟨env1, c1 ++ [.lst acc]⟩ ∧ t ⟨env1, c1 ++ [.lst acc]⟩ = .ok (q d) (c1 ++ [.lst acc]) ∧ (q d = true → f ⟨env1, c1 ++ [.lst acc]⟩ = .ok (h d) (c1 ++ [.lst acc]))) :
    eLc src g t f vs st = .ok (.lst ((ds.filter q).map h)) c1 := by
  have main : ∀ (es : List D) (acc : List D), (∀ d ∈ es, d ∈ ds) → acc.length + es.length < 16777216 → lcL g t f keepAll (wipeD st.env vs) c1.length es (c1 ++ [.lst acc]) = some (c1 ++ [.lst (acc ++ (es.filter q).map h)]) := by
    intro es
    induction es with
    | nil => intro acc _ _; simp [lcL, keepAll]
    | cons d es ih =>
      intro acc hm hz
      have hz' : acc.length + es.length + 1 < 16777216 := by simpa [Nat.add_assoc] using hz
      obtain ⟨env1, e1, e2, e3⟩ := ht d (hm d List.mem_cons_self) acc
      unfold lcL
      cases c : q d with
      | false =>
        rw [c] at e2
        simp only [keepAll, if_true, e1, e2]
        rw [ih acc (fun x hx => hm x (List.mem_cons_of_mem _ hx)) (by omega), List.filter_cons_of_neg (by simp [c])]
      | true =>
        rw [c] at e2
        have g1 : (c1 ++ [Cell.lst acc])[c1.length]? = some (.lst acc) := by
          rw [List.getElem?_append_right (Nat.le_refl _), Nat.sub_self]; rfl
        have g2 : (c1 ++ [Cell.lst acc]).set c1.length (.lst (acc ++ [h d])) = c1 ++ [.lst (acc ++ [h d])] := by
          rw [List.set_append_right _ _ (Nat.le_refl _), Nat.sub_self]; rfl
        simp only [keepAll, if_true, e1, e2, e3 c, g1, g2]
        rw [if_pos (by omega), ih (acc ++ [h d]) (fun x hx => hm x (List.mem_cons_of_mem _ hx)) (by simp; omega), List.filter_cons_of_pos (by simp [c])]
        simp
  unfold eLc
  rw [hs]
  show (match lcL g t f keepAll (wipeD st.env vs) c1.length ds (c1 ++ [.lst []]) with
    | some c2 => _
    | none => _) = _
  rw [main ds [] (fun _ h => h) (by simpa using hl)]
  simp only [List.nil_append, lastCell_snoc]
  refine if_pos ⟨by first | trivial | rfl, belows_of fun x hx => ?_, hb⟩
  obtain ⟨d, hd, rfl⟩ := List.mem_map.mp hx
  obtain ⟨h1, h2⟩ := List.mem_filter.mp hd
  exact hh d h1 h2
/-- a for whose turns all go on -/
theorem forL_of {I : S → Prop} {g : Gt} {body : Sx} (ht : ∀ d st, I st → ∃ st1 st2, g d st = some st1 ∧ body st1 = .nx st2 ∧ I st2) : ∀ (ds : List D) (st : S), I st → ∃ st', forL g body keepAll ds st = .nx st' ∧ I st'
  | [], st, h => ⟨st, by simp [forL, keepAll], h⟩
  | d :: ds, st, h => by
    obtain ⟨st1, st2, e1, e2, h2⟩ := ht d st h
    obtain ⟨st3, e3, h3⟩ := forL_of ht ds st2 h2
    refine ⟨st3, ?_, h3⟩
    unfold forL
    simp only [keepAll, if_true, e1, e2]
    exact e3
theorem sSeq_of {f g : Sx} {st st1 : S} (h : f st = .nx st1) : sSeq f g st = g st1 := by
  unfold sSeq
  rw [h]
/-- no more than n different numbers below n -/
theorem pigeon : ∀ (n : Nat) (l : List Nat), l.Nodup → (∀ x ∈ l, x < n) → l.length ≤ n
  | 0, [], _, _ => Nat.le_refl _
  | 0, x :: l, _, h => absurd (h x List.mem_cons_self) (Nat.not_lt_zero _)
  | n + 1, l, nd, h => by
    by_cases c : n ∈ l
    · have h1 := pigeon n (l.erase n) (nd.erase n) (fun x hx => by
        have := (List.Nodup.mem_erase_iff nd).mp hx
        have := h x this.2
        omega)
      rw [List.length_erase_of_mem c] at h1
      omega
    · have h1 := pigeon n l nd (fun x hx => by
        have := h x hx
        have : x ≠ n := fun z => c (z ▸ hx)
        omega)
      omega
end VL

/-! VLX0: an own exception over ValueError whose __init__ says super().__init__(text) and keeps its argument -/
namespace VL
open PySem L2 PySem.W PySem.Calls PyProof.Rows

section
variable {prog : Program} {w : World} {A : Around} {E : Value → Shared → Prop} {h : Heap} {g : Array GenState} {d : Drawn} {t : Nat} {os : OsState}
theorem call_mw {K : Frag} {C u e t0 : Addr} {rest : List Value} {Q : Value → Shared → Prop} (X : K.In h) (T : OexC K C) (he : h.get? e = some (excObj C t0 none .none)) (hu : h.get? u = some (kxs_mw "ValueError.__init__" e)) (hz : rest.length ≤ sizeLine)
    (hq : ∀ h' t1, (∀ b o, b ≠ e → h.get? b = some o → h'.get? b = some o) → h'.get? e = some (excObj C t1 none .none) → Q .none ⟨h', g, d, t, os⟩) :
    wpAny (model prog w) A (call (.ref u) rest) Q E ⟨h, g, d, t, os⟩ := by
  obtain ⟨nm, q, N, bs, bm, sn, sub, ab, col, dd, k0, k1, k2, k3, k5, hC, hbm⟩ := T.cls
  have FB := PySem.F.excBase_ValueError
  refine wpAny_call (codeAny_of_tree ?_)
  show wpAny _ A.in1 (callAny (.ref u) ⟨rest, []⟩) _ _ _
  simp only [callAny]
  refine wpAny_bind (wpAny_load hu ?_)
  simp only [kxs_mw, show (Value.type "method-wrapper" == Value.type "method" || Value.type "method-wrapper" == Value.type "builtin_function_or_method" || Value.type "method-wrapper" == Value.type "method-wrapper") = true by decide, if_true]
  refine KFB.if_so (by decide) ?_
  refine wpAny_bind (check_bound_init FB.toExcCallFacts (X _ _ hC) he rfl ?_)
  refine wpAny_bind (wpAny_pure (wpAny_pure ?_))
  refine ⟨plainId_quiet FB.init.plain _, codeAny_builtin FB.initEntry ?_⟩
  exact exc_init_tree (cls := .ref C) (t0 := t0) (dv := none) (c2 := .none) (c3 := .none) (b4 := .bool false) he hz fun h' k e' _ => hq h' _ k e'
end
/-- what __init__(self, p) promises -/
def spSup (C : Addr) (fld : Str) : Sp := fun vs H Q _ => ∃ a v, vs = [.ref a, v] ∧ H a = some (exo a C none) ∧ ∀ d, H d = none → d ≠ a → Q .non (upd (upd H d (exd d [(fld, v)])) a (exo a C (some d)))
/-- the facts of such an __init__ -/
structure SupI (P : Program) (K : Frag) (mg : Str → Option Value) (C f : Addr) (fd : FuncData) (fld : Str) : Prop where
  T : OexC K C
  no : findIn K (.ref C) fld = some none
  sup : ks_superIn K C C "__init__" = some (some (.builtin "ValueError.__init__"))
  mro : mroIn K C (.ref C) = some true
  ve : subIn K (.ref C) (.type "ValueError") = some true
  any : nsIn K cStatics "thirdparty.any" = some none
  ms : mg "super" = none
  top : (P.main.scope.names.lookup ("super" : Str)).isSome = false
  fn : ∃ (oc cl ccl : Value) (od cld cdd : Option Addr) (osl csl ccs : Array (Option Value)) (vs0 : Array Value) (file : Str) (tf : Tok) (cc cda : Addr), K.lookup f = some ⟨oc, od, .func fd, osl⟩ ∧ fd.closure = [(("__class__" : Str), cc)] ∧ fd.code = .ref cda ∧ codeIn K (.ref cda) fd.qualname = true ∧
    K.lookup cda = some ⟨ccl, cdd, .fields vs0, ccs⟩ ∧ vs0[2]? = some (.str file tf) ∧ ((P.main.file : Str) == file) = true ∧ K.lookup cc = some ⟨cl, cld, .cell (some (.ref C)), csl⟩
def MethEv (o : Expr) (name : Str) (apos : Pos) (args : List Expr) (pos : Pos) : Prop := ∀ env, ∃ pl, eval (.Call (.Attribute o name apos) args [] pos) env = (do
      let ov ← attributeBase o name env (eval o env)
      standAt apos.atName
      let (f, first) ← holding [ov] (getMethod ov name pl)
      callWith pos f first (backTo pos (starEach args env)) [])
theorem fn_super {CX : CXT} {P : Program} {w : World} {K : Frag} {mg : Str → Option Value} {base : Heap} {k : Nat} {f C : Addr} {name qual : Str} {params : Arguments} {scope : Scope} {cls : List (Str × Addr)} {dV kV doc pm cdv ct : Value} {an : Option Addr} {txt fld par : Str} {j : Nat} {p0 p1 p2 p3 p4 p5 p6 p7 p8 p9 : Pos} {ar : Arg}
    (S : SupI P K mg C f (fnX name qual params [.Expr (.Call (.Attribute (.Call (.Name "super" p0) [] [] p1) "__init__" p2) [.Constant (.str txt) j p3] [] p4) p5, .Assign [.Attribute (.Name "self" p6) fld p7] (.Name par p8) p9] scope cls dV kV doc pm an cdv ct) fld)
    (hev : MethEv (.Call (.Name "super" p0) [] [] p1) "__init__" p2 [.Constant (.str txt) j p3] p4) (hp : (params.posonlyargs ++ params.args).head? = some ar) (har : ar.arg = "self") (hks : scope.names.lookup ("super" : Str) = some .globalImplicit) (hkc : scope.names.lookup ("__class__" : Str) = some .free) (hka : scope.names.lookup ("self" : Str) = some .local) (hkp : scope.names.lookup par = some .local)
    (hk : scope.kind = .function) (hcells : ∀ x ∈ scope.names, x.2 ≠ .cell) (hco : scope.isCoroutine = false) (hgen : scope.isGenerator = false) (hpar : par ≠ "self") (hdb : (par == ("__debug__" : Str)) = false) :
    FnOk P w K mg base CX (k + 1) f (fnX name qual params [.Expr (.Call (.Attribute (.Call (.Name "super" p0) [] [] p1) "__init__" p2) [.Constant (.str txt) j p3] [] p4) p5, .Assign [.Attribute (.Name "self" p6) fld p7] (.Name par p8) p9] scope cls dV kV doc pm an cdv ct) ["self", par] (spSup C fld) := by
  refine ⟨fun vs H Q E ⟨a, v, e, _⟩ => by rw [e]; rfl, fun A outer s H args us vs Q E hr e0 hb r hsp => ?_⟩
  obtain ⟨oc, cl, ccl, od, cld, cdd, osl, csl, ccs, vs0, file, tf, cc, cda, lk, hcl, hcv, hcd, hcode, hvs, hfile, hcell⟩ := S.fn
  obtain ⟨nm, q, N, bs, bm, sn, sub, ab, col, dd, k0, k1, k2, k3, k5, hC, hbm⟩ := S.T.cls
  have hcls : clsIn K C = some { name := nm, bases := bs, mro := .ref C :: bm, ns := N, qualname := q, hasDict := true, slotNames := sn, subclasses := sub, abstract := ab, collection := col, hasDel := false } := by unfold clsIn; rw [hC] <;> rfl
  obtain ⟨a, v, rfl, ea, hq⟩ := hsp
  cases r with
  | @cons _ u0 _ ur ra rr =>
  cases rr with
  | @cons _ u _ ur2 ru rn =>
  cases rn with
  | nil =>
  obtain rfl : u0 = Value.ref a := ra
  dsimp only at hcl hcv
  subst hcl hcv
  have KX : K.In s.heap := e0.mod.kin.keeps fun b o e => (e0.bs b o e).1
  have lim : s.heap.NoLimit := e0.mod.nolimit.keeps fun b o e => (e0.bs b o e).1
  have hbin : BindsTo s _ args [("self", Value.ref a), (par, u)] := hb
  refine ks_codeAny_call_defAt (binds := [("self", Value.ref a), (par, u)]) hr.depth (KX _ _ lk) rfl lim (codeRec_of KX hcd) rfl hbin hcells (fun x hx => ?_) (fun h1 hns kp => ?_) hco hgen hk
  · simp only [List.mem_cons, List.not_mem_nil, or_false] at hx
    rcases hx with rfl | rfl
    · exact hka
    · exact hkp
  have m1 : List.lookup ("self" : Str) ([(("self" : Str), Value.ref a), (par, u)].reverse) = some (Value.ref a) := by
    have z : (("self" : Str) == par) = false := by simpa using Ne.symm hpar
    show List.lookup ("self" : Str) [(par, u), ("self", Value.ref a)] = _
    rw [List.lookup_cons, z]
    rfl
  have m2 : ([(("self" : Str), Value.ref a), (par, u)].reverse).lookup par = some u := by
    show List.lookup par [(par, u), ("self", Value.ref a)] = _
    rw [List.lookup_cons, beq_self_eq_true]
  obtain ⟨t0, hx⟩ := exo_at e0.hok ea
  have X1 : K.In h1 := KX.keeps kp
  have x1 : h1.get? a = some (excObj C t0 none .none) := kp _ _ hx
  have I1 : InstAt h1 a (excObj C t0 none .none) C none := ⟨x1, rfl, rfl, trivial⟩
  obtain ⟨mb, hb1, hb2⟩ := e0.mod.blt
  have kb : ∀ b o, base.get? b = some o → h1.get? b = some o := fun b o e => kp b o (e0.bs b o e).1
  have hi : ∀ env : Env, env.scope = scope → interactive env = false := fun env e => by
    unfold interactive
    rw [e, hk]
    rfl
  refine ks_wpAt_execs_cons (ks_wpAt_Expr_any ?_ (hi _ rfl))
  obtain ⟨pl, he⟩ := hev (callEnv (fnX name qual params [.Expr (.Call (.Attribute (.Call (.Name "super" p0) [] [] p1) "__init__" p2) [.Constant (.str txt) j p3] [] p4) p5, .Assign [.Attribute (.Name "self" p6) fld p7] (.Name par p8) p9] scope [(("__class__" : Str), cc)] dV kV doc pm an (.ref cda) ct) s.heap.objs.size f)
  refine ks_wpAt_MethodCall (pl := pl) ?_ he
  refine ks_wpAt_super_base (f := f) (cc := cda) hks hkc (by decide) rfl (X1 _ _ lk) rfl hp rfl (X1 _ _ hcode) rfl hvs hfile S.top ?_
  refine ks_loadName_global hk hks (loadGlobal_builtin (e0.mod.glob.keeps kb) S.ms (hb1.keeps kb) ((hb2 _ (by decide)).trans PyProof.Rows.Boot.«super») ⟨rfl, ?_⟩)
  refine wpAny_loadName_free hk hkc rfl ⟨_, X1 _ _ hcell, rfl⟩ ?_
  refine wpAny_loadName_local (v := .ref a) hk (by rw [har]; exact hka) hns ?_ ?_
  · rw [har]
    exact m1
  refine ks_wpAny_isType_cls (X1 _ _ hC) rfl ⟨rfl, ?_⟩
  refine ks_wpAny_call_super (X1 _ _ hC) rfl x1 rfl (fun c e => by cases e) (looks_mroIn X1 S.mro) (fun h2 so k12 => ?_)
  have X2 : K.In h2 := X1.keeps k12
  have x2 : h2.get? a = some (excObj C t0 none .none) := k12 _ _ x1
  have I2 : InstAt h2 a (excObj C t0 none .none) C none := ⟨x2, rfl, rfl, trivial⟩
  have hsup := S.sup
  unfold ks_superIn at hsup
  rw [hcls] at hsup
  refine kxs_getMethod kxs_ValueError so (looks_opaque X2 S.any) (l₀ := .ref C :: bm) (fun A Q E s k q => wpAny_bind ((looks_clsIn X2 hcls) A _ E s k (wpAny_pure q))) rfl X2 hsup (I2.type.andThen (looks_subIn X2 S.ve)) (ks_ne X2 I2 hcls) (by decide) ?_
  refine kxs_callWith (i := "ValueError.__init__") (x := a) rfl (evalArgs_plain (Calls.spliced_cons (Calls.Constant_str (k := j) (pos := p3) (Calls.spliced_nil ⟨?_, ?_⟩))))
  · exact Heap.get?_push_at rfl rfl
  have k23 : ∀ b o, h2.get? b = some o → (h2.push (kxs_mw "ValueError.__init__" a)).get? b = some o := fun b o e => Heap.get?_push_of_some _ e
  refine call_mw (K := K) (C := C) (e := a) (t0 := t0) (X2.keeps k23) S.T (k23 _ _ x2) (Heap.get?_push_at rfl rfl) (by rw [sizeLine_eq]; simp) (fun h4 t1 k34 x4 => ?_)
  have kAll : ∀ b o, b ≠ a → h1.get? b = some o → h4.get? b = some o := fun b o hb e => k34 b o hb (k23 _ _ (k12 _ _ e))
  have X4 : K.In h4 := fun b o e => by
    have hb : b ≠ a := fun z => by
      have y := (e0.bs b o (e0.mod.kin _ _ e)).2
      rw [z, ea] at y
      cases y
    exact kAll b o hb (X1 _ _ e)
  have La : s.heap.objs.size ≠ a := Nat.ne_of_gt (Heap.lt_size hx)
  have hns4 : h4.Ns s.heap.objs.size (fun x => [(("self" : Str), Value.ref a), (par, u)].reverse.lookup x) := hns.at fun o e => kAll _ o La e
  refine ks_wpAt_execs_cons (ks_wpAt_Assign_Attr (wpAt_of_wpAny (wpAny_Name (wpAny_loadName_local hk hkp hns4 m2 (wpAny_Name (wpAny_loadName_local hk hka hns4 m1 ?_) (by decide))) hdb)))
  refine set_plain X4 (ox := excObj C t1 none .none) (od := none) ⟨x4, rfl, rfl, trivial⟩ S.T.sa ?_
  refine HandSPX.exc_osa X4 x4 hcls (show HandSPX.refsVE (.ref C :: bm) = true from hbm) rfl S.no (fun h5 tk5 dx k45 dn dne x5 n5 => ?_)
  have kFull : ∀ b o, b ≠ a → s.heap.get? b = some o → h5.get? b = some o := fun b o hb e => k45 b o hb (kAll b o hb (kp b o e))
  have Lt : s.heap.objs.size < h4.objs.size := by
    obtain ⟨oL, es, ep, hL, _⟩ := hns4
    exact Heap.lt_size hL
  have hnd : H dx = none := e0.hok.fresh (Nat.le_of_lt (Nat.lt_of_lt_of_le Lt dn))
  have nd : ∀ {b : Addr} {o : Obj}, s.heap.get? b = some o → b ≠ dx := fun {b o} z => Nat.ne_of_lt (Nat.lt_of_lt_of_le (Nat.lt_trans (Heap.lt_size z) Lt) dn)
  have na : ∀ {b : Addr}, H b = none → b ≠ a := fun {b} n z => by
    rw [z, ea] at n
    cases n
  refine wpAt_of_wpAny (wpAny_execs_nil ?_)
  refine ⟨.non, upd (upd H dx (exd dx [(fld, v)])) a (exo a C (some dx)), rfl, e0.bare, ?_, ?_, rfl, hq dx hnd dne⟩
  · exact {
      keep := fun b o q n _ _ => kFull b o (na n) q
      slot := fun b o q n _ _ => ⟨o.slots, kFull b o (na n) q⟩
      free := fun b o q n _ => by rw [upd_ne (na n), upd_ne (nd q)]; exact n
      there := fun b o q _ => by
        by_cases hb : b = a
        · exact ⟨_, by rw [hb]; exact x5⟩
        · exact ⟨o, kFull b o hb q⟩
      tups := fun b xs q => by rw [upd_ne (at_ne ea q exo_tup), upd_ne (ne_of_none q hnd)]; exact q
      frzs := fun b o v q => by rw [upd_ne (at_ne ea q exo_frz), upd_ne (ne_of_none q hnd)]; exact q
      tbls := fun b ps q => ⟨#[], by rw [upd_ne (at_ne ea q exo_tbl), upd_ne (ne_of_none q hnd), q]; simp⟩ }
  · intro b o q
    by_cases hb : b = a
    · subst hb
      rw [upd_same] at q
      cases q
      exact exo_ok x5
    · rw [upd_ne hb] at q
      by_cases hd : b = dx
      · subst hd
        rw [upd_same] at q
        cases q
        exact exd_ok n5 (relO_put (fs := []) ru fun g => True.intro)
      · rw [upd_ne hd] at q
        exact (e0.hok b o q).stay (fun c v hc z => kFull c v (by
            rcases hc with hc | hc
            · rw [hc]
              exact hb
            · exact at_ne ea hc exo_own) z)
          (fun c hc => by rw [upd_ne (at_ne ea hc exo_own), upd_ne (ne_of_none hc hnd)]; exact hc) (fun c xs hc => by rw [upd_ne (at_ne ea hc exo_tup), upd_ne (ne_of_none hc hnd)]; exact hc)
end VL

/-! VLX1: raise of own exceptions -/
namespace VL
open PySem L2
/-- an own exception class with __init__(self, p) over super() -/
structure Xc (P : Program) (w : World) (K : Kt) (mg : Str → Option Value) (base : Heap) (x : Str) (cn : Nat) (fld : Str) : Prop where
  ex : ∃ (f : Addr) (fd : FuncData) (ps : List Str), mg x = some (.ref (K.κ cn)) ∧ OexC K.K (K.κ cn) ∧ PySem.W.findIn K.K (.ref (K.κ cn)) "__init__" = some (some (.ref f)) ∧ PySem.W.typeIn K.K (.ref f) = some (.type "function") ∧ Binds K.K fd ps [] ∧ FnOk P w K.K mg base (L2.CX P w) 1 f fd ps (spSup (K.κ cn) fld)
def sRaise (cn : Nat) (fld : Str) (fe : Ex) : Sx := fun st => thenS (fe st) st.env fun d st' => .ex ⟨cn, [fld], [d]⟩ st'
theorem tX_mono {α β : Type} {R : Kt → List Addr → Hp → α → β → Prop} {G : Gx} {W : WX} {f : S → Out α} {σ : St} {H : Hp} {Q Q' : β → Hp → Prop} (h : tX R G W f σ H Q) (m : ∀ v H, Q v H → Q' v H) : tX R G W f σ H Q' := by
  obtain ⟨ρ, F, st, r, p⟩ := h
  refine ⟨ρ, F, st, r, ?_⟩
  cases e : f st with
  | ok a cs =>
    rw [e] at p
    exact fun ρ' F' H' v x r rv => m _ _ (p ρ' F' H' v x r rv)
  | ex a cs =>
    rw [e] at p
    exact p
  | no =>
    rw [e] at p
    exact p
section
variable {X : Cx} {G : Gx} {W : WX} {e : Expr} {fe : Ex} {x fld : Str} {cn : Nat} {p pos pos' : Pos}
theorem pmk_raise (d : Xc X.prog X.w G.K X.mg X.base x cn fld) (hK : X.K = G.K.K) (tk : Takes X W) (hr : Room 2 X.A) (he : PE X e (tE G W fe)) (hg : Gl X x := by rfl) (hdb : (x == ("__debug__" : Str)) = false := by decide) (hs : starEach [e] X.env = (false, eval e X.env) :: starEach [] X.env := by rfl) :
    PMk X (.Call (.Name x p) [e] [] pos) (fun σ H Q => tE G W fe σ H fun v H1 => ∀ dx, H1 dx = none → Q (.ref (G.K.κ cn)) (some dx) (upd H1 dx (.xd [(fld, v)]))) := by
  obtain ⟨f, fd, ps, h1, h2, h3, h4, h5, h6⟩ := d.ex
  rw [← hK] at h2 h3 h4 h5 h6
  have m := pmk_oex (p := p) (pos := pos) (dvs := []) (ds := []) h2 h3 h4 h6 hr h5 .nil (passes_call tk (fun _ _ _ _ z => z.elim)) hg h1 (pa_cons he pa_nil hs) hdb hs (by rfl)
  intro pins s σ H Q I h
  refine m pins s σ H Q I ?_
  refine tX_mono h ?_
  intro v H1 q
  refine ⟨by simp, fun a ha => ⟨a, v, rfl, upd_same, fun dx hd ne => ⟨rfl, dx, [(fld, v)], upd_same, ?_, ?_, ?_⟩⟩⟩
  · rw [upd_ne ne, upd_same]
  · rw [upd_ne ne] at hd
    exact hd
  · rw [upd_ne ne] at hd
    have e : upd (del (upd (upd (upd H1 a (exo a (G.K.κ cn) none)) dx (exd dx [(fld, v)])) a (exo a (G.K.κ cn) (some dx))) a) dx (.xd [(fld, v)]) = upd H1 dx (.xd [(fld, v)]) := by
      funext b
      by_cases hb : b = dx
      · rw [hb, upd_same, upd_same]
      · rw [upd_ne hb, upd_ne hb]
        by_cases ha' : b = a
        · rw [ha', del_same, ha]
        · rw [del_ne ha', upd_ne ha', upd_ne hb, upd_ne ha']
    rw [e]
    exact q dx hd
theorem ds_raise (d : Xc X.prog X.w G.K X.mg X.base x cn fld) (hK : X.K = G.K.K) (hc : X.calm = true) (tk : Takes X W) (hr : Room 2 X.A) (he : PE X e (tE G W fe)) (hg : Gl X x := by rfl) (hdb : (x == ("__debug__" : Str)) = false := by decide) (hs : starEach [e] X.env = (false, eval e X.env) :: starEach [] X.env := by rfl) :
    PS X (.Raise (some (.Call (.Name x p) [e] [] pos)) none pos') (tS G W (sRaise cn fld fe)) := by
  refine (ps_raise hc tk (pmk_raise (p := p) (pos := pos) d hK tk hr he hg hdb hs)).impV fun D σ H ⟨ρ, F, st, r, p⟩ => seqS (f := fe) r p fun ρ1 F1 H1 x c1 v x1 r1 rv1 p1 dx hd => ?_
  obtain ⟨x2, r2⟩ := r1.fresh (o := .xd [(fld, v)]) hd
  exact p1 _ _ σ _ _ _ x2 r2 ⟨rfl, dx, [v], rfl, upd_same, rfl, .cons (rv1.ext x2) .nil⟩
end
end VL

/-! VLX2: try .. except C as e: y = f(e) -/
namespace VL
open PySem L2
/-- an expression of an except suite: the slot i holds the exception at a -/
def tEx (i : Nat) (a : Addr) (t : TE) : TE := fun σ H Q => σ[i]? = some (some (.ref a)) ∧ t σ H Q
/-- the clause's class: which exceptions it takes -/
def Catch (K : Kt) (c : Value) (ct : Nat → Option Bool) : Prop := ∀ C b, ct C = some b → PySem.W.exmOne K.K (.ref (K.κ C)) c = some b
def sTry1 (ct : Nat → Option Bool) (i j : Nat) (fb : Sx) (fx : Exn → Ex) : Sx := fun st => match fb st with
  | .ex e st1 => (match ct e.C with
    | some true => if i < st1.env.length then (match fx e ⟨st1.env.set i none, st1.cs⟩ with
      | .ok d cs => .nx ⟨((st1.env.set i none).set j (some d)).set i none, cs⟩
      | _ => .no) else .no
    | some false => .ex e st1
    | none => .no)
  | o => o
theorem Rel.hide {G : Gx} {ρ : List Addr} {F : Hp} {st : S} {σ : St} {H : Hp} (r : Rel G ρ F st σ H) (i : Nat) (o : Option V) : Rel G ρ F ⟨st.env.set i none, st.cs⟩ (σ.set i o) H := by
  refine ⟨by simpa using r.len, fun j d e => ?_, r.cl, r.cell, r.nd, r.fz, r.sep, r.fr, r.own, r.new, r.old, r.a0⟩
  have e : (st.env.set i none)[j]? = some (some d) := e
  by_cases h : i = j
  · subst h
    rw [List.getElem?_set_self'] at e
    cases q : st.env[i]? with
    | none => rw [q] at e; cases e
    | some o => rw [q] at e; cases e
  · rw [List.getElem?_set_ne h] at e
    rw [List.getElem?_set_ne h]
    exact r.env j d e
section
variable {X : Cx} {G : Gx} {W : WX} {x n y : Str} {c : Value} {i j : Nat} {body : List Stmt} {e : Expr} {np pos pos' pa py' : Pos} {fb : Sx} {fx : Exn → Ex} {ct : Nat → Option Bool}
/-- what the suite's expression gives, for each exception that is taken -/
def SuiteE (X : Cx) (G : Gx) (i : Nat) (e : Expr) (ct : Nat → Option Bool) (fx : Exn → Ex) : Prop :=
  ∀ (a : Addr) (oe : Obj) (cls : Value) (d : Option Addr) (pn : List (Addr × Obj)), Zc cls d oe → (∃ vs, oe.data = .fields vs) →
    PE (X.suite a ((a, oe) :: pn)) e (fun σ H Q => ∃ ex : Exn, ct ex.C = some true ∧ σ[i]? = some (some (.ref a)) ∧ ∃ ρ F st, Rel G ρ F st σ H ∧ XAt G.K ρ F ex cls d ∧ Post RV G W0 ρ F st.env σ Q (fx ex st))
theorem ds_try1 (hK : X.K = G.K.K) (hs : X.stack = X.env :: X.outer) (hf : X.env.frame = some X.env.locals) (hN : X.N.Nodup) (hi : X.N[i]? = some n) (hj : X.N[j]? = some y) (hln : X.env.kindOf n = some .local) (hc : Names X x c) (hct : Catch G.K c ct) (tk : Takes X W)
    (hb : ∀ (W : WX) (pn : List (Addr × Obj)) (xe : Value → Shared → Prop), Takes (X.tr pn xe) W → PassesOwn (model X.prog X.w) X.A X.env xe → PSs (X.tr pn xe) body (tS G W fb))
    (he : SuiteE X G i e ct fx) (hx : Loc X.env.scope y := by first | exact Or.inl rfl | exact Or.inr rfl) (hsw : swapsWith e (some (.Name y py')) pa.line X.env = pure false := by rfl) (hfn : X.fn y = true ∨ X.env.scope.names.lookup y = some .local := by first | exact .inl rfl | exact .inr rfl) :
    PS X (.Try body [.ExceptHandler (some (.Name x np)) (some n) [.Assign [.Name y py'] e pa] pos'] [] [] pos) (tS G W (sTry1 ct i j fb fx)) := by
  have P := ps_try_as (np := np) (pos := pos) (pos' := pos') hs hf hN hi hln hc tk hb (fun a oe cls d pn hz hd => pss_one (ps_set (i := j) (pos := pa) (pos' := py') hN hj hx (he a oe cls d pn hz hd) hsw hfn))
  refine P.impV fun D σ H ⟨ρ, F, st, r, p⟩ => ?_
  refine ⟨ρ, F, st, r, ?_⟩
  unfold sTry1 at p
  cases q : fb st with
  | ex ex st1 =>
    rw [q] at p
    intro ρ1 F1 σ1 H1 cls d x1 r1 xa
    dsimp only at p
    obtain ⟨rfl, hxa⟩ := xa
    cases b : ct ex.C with
    | none => rw [b] at p; exact p.elim
    | some k =>
      rw [b] at p
      refine ⟨k, by rw [hK]; exact hct _ _ b, fun hk a ha => ?_, fun hk => ?_⟩
      · subst hk
        dsimp only at p
        by_cases hli : i < st1.env.length
        rotate_left
        · rw [if_neg hli] at p
          exact p.elim
        rw [if_pos hli] at p
        have r2 := r1.hide i (some (.ref a))
        refine ⟨ex, b, ?_, ρ1, F1, _, r2, ⟨rfl, hxa⟩, ?_⟩
        · have hl : i < σ1.length := by
            rw [← r1.len]
            exact hli
          simp [hl]
        · cases v : fx ex ⟨st1.env.set i none, st1.cs⟩ with
          | ok dv cs =>
            rw [v] at p
            intro ρ2 F2 H2 vv x2 r3 rv
            exact p ρ2 F2 _ H2 (x1.trans x2) ((r3.slot rv).hide i none)
          | ex _ _ => rw [v] at p; exact p.elim
          | no => rw [v] at p; exact p.elim
      · subst hk
        dsimp only at p
        exact p ρ1 F1 σ1 H1 _ d x1 r1 ⟨rfl, hxa⟩
  | nx _ => rw [q] at p; exact p
  | rt _ _ => rw [q] at p; exact p
  | bk _ => rw [q] at p; exact p
  | ct _ => rw [q] at p; exact p
  | no => rw [q] at p; exact p
end
end VL

/-! VLX3: expressions of an except suite -/
namespace VL
open PySem L2
/-- what is known of the suite's exception -/
structure XHere (G : Gx) (cn i : Nat) (a : Addr) (cls : Value) (d : Option Addr) (σ : St) (H : Hp) : Prop where
  slot : σ[i]? = some (some (.ref a))
  cls : cls = .ref (G.K.κ cn)
  dict : ∃ dd fs, d = some dd ∧ H dd = some (.xd fs)
section
variable {X : Cx} {G : Gx} {cn i : Nat} {e e1 e2 c : Expr} {n f x : Str} {p pos p1 p2 : Pos} {ct : Nat → Option Bool} {fx f1 f2 : Exn → Ex} {b b1 b2 : Bool}
theorem xhere_of {ρ : List Addr} {F : Hp} {st : S} {σ : St} {H : Hp} {ex : Exn} {a : Addr} {cls : Value} {d : Option Addr} (r : Rel G ρ F st σ H) (xa : XAt G.K ρ F ex cls d) (hs : σ[i]? = some (some (.ref a))) : XHere G ex.C i a cls d σ H := by
  obtain ⟨h1, dx, vs, h2, h3, _⟩ := xa
  exact ⟨hs, h1, dx, _, h2, r.fz _ _ h3⟩
theorem look_zip {K : Kt} {ρ : List Addr} {F : Hp} {f : Str} : ∀ {ks : List Str} {ds : List D} {vs : List V} {d : D}, lookD f ks ds = some d → RVs K ρ F ds vs → ∃ v, (ks.zip vs).lookup f = some v ∧ RV K ρ F d v
  | [], _, _, _, h, _ => by cases h
  | _ :: _, [], _, _, h, _ => by cases h
  | k :: ks, x :: ds, _, d, h, .cons (v := v) (vs := vs) rv r => by
    have h : (if f = k then some x else lookD f ks ds) = some d := h
    by_cases q : f = k
    · rw [if_pos q] at h
      cases h
      exact ⟨v, by rw [q]; simp [List.lookup], rv⟩
    · rw [if_neg q] at h
      obtain ⟨v', e1, e2⟩ := look_zip h r
      have z : (f == k) = false := by simpa using q
      exact ⟨v', by simp [List.lookup, z, e1], e2⟩
/-- e.f -/
theorem se_fld (hK : X.K = G.K.K) (T : XfC G.K.K (G.K.κ cn)) (hno : PySem.W.findIn G.K.K (.ref (G.K.κ cn)) f = some none) (only : ∀ C, ct C = some true → C = cn) (hv : ∀ a pn, PE (X.suite a pn) (.Name n p) (tVar i)) (hb : attributeBase (.Name n p) f X.env (eval (.Name n p) X.env) = eval (.Name n p) X.env := by rfl) :
    SuiteE X G i (.Attribute (.Name n p) f pos) ct (fun ex st => match lookD f ex.ks ex.ds with
      | some d => .ok d st.cs
      | none => .no) := by
  intro a oe cls d pn hz hd
  refine (pe_xf (pos := pos) (hK ▸ T) (hK ▸ hno) hz hd (hv a _) hb).impV ?_
  rintro σ H Q ⟨ex, hc, hs, ρ, F, st, r, xa, po⟩
  have ec := only _ hc
  refine ⟨.ref a, hs, rfl, ?_, ?_⟩
  · rw [xa.1, ec]
  obtain ⟨_, dx, vs, h2, h3, h4, h5⟩ := xa
  dsimp only at po
  cases q : lookD f ex.ks ex.ds with
  | none => rw [q] at po; exact po.elim
  | some dv =>
    rw [q] at po
    obtain ⟨v, l1, l2⟩ := look_zip q h5
    exact ⟨dx, _, v, h2, r.fz _ _ h3, l1, po ρ F H v Ext.refl r l2⟩
/-- a written text -/
theorem se_str {s : Str} {j : Nat} : SuiteE X G i (.Constant (.str s) j pos) ct (fun _ st => .ok (.str s) st.cs) := by
  intro a oe cls d pn hz hd
  refine (pe_str (x := s)).impV ?_
  rintro σ H Q ⟨ex, hc, hs, ρ, F, st, r, xa, po⟩
  exact po ρ F H _ Ext.refl r (.str _)
/-- a test whose answer hangs on the class alone -/
def SuiteB (X : Cx) (G : Gx) (cn i : Nat) (e : Expr) (b : Bool) : Prop :=
  ∀ (a : Addr) (oe : Obj) (cls : Value) (d : Option Addr) (pn : List (Addr × Obj)), Zc cls d oe → (∃ vs, oe.data = .fields vs) →
    PT (X.suite a ((a, oe) :: pn)) e (fun σ H Q => XHere G cn i a cls d σ H ∧ Q b H)
theorem se_if (hc : SuiteB X G cn i c b) (only : ∀ C, ct C = some true → C = cn) (h1 : SuiteE X G i e1 ct f1) (h2 : SuiteE X G i e2 ct f2) : SuiteE X G i (.IfExp c e1 e2 pos) ct (if b then f1 else f2) := by
  intro a oe cls d pn hz hd
  refine (pe_ifExp (hc a oe cls d pn hz hd) (h1 a oe cls d pn hz hd) (h2 a oe cls d pn hz hd)).impV ?_
  rintro σ H Q ⟨ex, hct, hs, ρ, F, st, r, xa, po⟩
  have xh := xhere_of (i := i) r xa hs
  rw [only _ hct] at xh
  refine ⟨xh, ?_⟩
  cases b with
  | true => exact ⟨ex, hct, hs, ρ, F, st, r, xa, po⟩
  | false => exact ⟨ex, hct, hs, ρ, F, st, r, xa, po⟩
theorem sb_not (h : SuiteB X G cn i c b) : SuiteB X G cn i (.UnaryOp .Not c pos) (!b) := fun a oe cls d pn hz hd => (pt_not (h a oe cls d pn hz hd)).impV fun σ H Q h => h
theorem sb_and (h1 : SuiteB X G cn i e1 b1) (h2 : SuiteB X G cn i e2 b2) : SuiteB X G cn i (.BoolOp .And [e1, e2] pos) (b1 && b2) := by
  intro a oe cls d pn hz hd
  refine (pw_and (h1 a oe cls d pn hz hd) (pw_and1 (h2 a oe cls d pn hz hd))).pt.impV ?_
  rintro σ H Q ⟨xh, q⟩
  refine ⟨xh, ?_⟩
  cases b1 with
  | true => exact ⟨xh, q⟩
  | false => exact q
/-- isinstance(e, C) -/
def rIsE2 (K : PySem.W.Frag) (D a : Addr) (cls : Value) (d : Option Addr) : List V → Hp → VK → Prop := fun xs H Q => ∃ (c : V) (cv : Value) (b : Bool), xs = [.ref a, c] ∧ (∀ u, RelV c u → u = cv) ∧ PySem.W.kitOne K (.ref D) cv = some b ∧ cls = .ref D ∧ (∃ dd fs, d = some dd ∧ H dd = some (.xd fs)) ∧ Q (.bl b) H
theorem call_isE2 {a D : Addr} {oe : Obj} {cls : Value} {d : Option Addr} {pn : List (Addr × Obj)} (C : ExcC X.K D) (hz : Zc cls d oe) (hf : ∃ vs, oe.data = .fields vs) : CallR (X.suite a ((a, oe) :: pn)) (.builtin "isinstance") (rIsE2 X.K D a cls d) := by
  intro pins s σ H xs us Q I r h
  obtain ⟨c, cv, b, rfl, hcv, e, rfl, ⟨dd, fs, rfl, ed⟩, q⟩ := h
  cases r with
  | cons rx rr =>
    cases rr with
    | cons rt rr =>
      cases rr
      cases rx
      have ec := hcv _ rt
      subst ec
      have hget := (I.pin (a, oe) (List.mem_append.mpr (.inl List.mem_cons_self))).1
      obtain ⟨vs, hv⟩ := hf
      have hx : ObjOk X.prog X.w H s.heap dd (.xd fs) := I.hok dd _ ed
      obtain ⟨mA, hns, _⟩ := hx
      obtain ⟨od, ho, _⟩ := lookIn_ns hns
      have J : PySem.W.InstAt s.heap a oe D (some od) := ⟨hget, hz.1, by unfold PySem.W.notCls; rw [hv] <;> rfl, by rw [hz.2]; exact ho⟩
      obtain ⟨cdD, hcD, _⟩ := PySem.W.any_some C.hd
      exact PySem.W.kia_one (PySem.W.kitx_exc (od := some od) (by rw [hcD]; rfl) C.hg C.hk C.hs C.ha C.hn C.ht C.hm) I.kIn J e (fun z => nomatch z) fun tk => ⟨.bl b, H, I.kept (t' := tk) fun _ _ z => z, rfl, q⟩
theorem sb_isi {D2 : Addr} (hK : X.K = G.K.K) (T : ExcC G.K.K (G.K.κ cn)) (hg : Gl X "isinstance") (hm : X.mg "isinstance" = none) (hgx : Gl X x) (hmx : X.mg x = some (.ref D2)) (hk : PySem.W.kitOne G.K.K (.ref (G.K.κ cn)) (.ref D2) = some b) (hv : ∀ a pn, PE (X.suite a pn) (.Name n p) (tVar i))
    (hd : (x == ("__debug__" : Str)) = false := by decide) (hs : starEach [.Name n p, .Name x p2] X.env = (false, eval (.Name n p) X.env) :: starEach [.Name x p2] X.env := by rfl) (hpl : (backTo pos (starEach [.Name x p2] X.env)).any (·.1) = false := by rfl) (hs2 : starEach [.Name x p2] X.env = (false, eval (.Name x p2) X.env) :: starEach [] X.env := by rfl)
    (he : ∀ whole, isTrue (.Call (.Name "isinstance" p1) [.Name n p, .Name x p2] [] pos) X.env whole = (do let v ← whole; standAt (Expr.Call (.Name "isinstance" p1) [.Name n p, .Name x p2] [] pos).pos; holding [v] (truthy v)) := by intro _; rfl) :
    SuiteB X G cn i (.Call (.Name "isinstance" p1) [.Name n p, .Name x p2] [] pos) b := by
  intro a oe cls d pn hz hf
  have hT : PE (X.suite a ((a, oe) :: pn)) (.Name x p2) (tC (.ref D2)) := pe_glob hgx hmx rfl hd
  have P := pe_callB (p := p1) (pos := pos) (call_isE2 (a := a) (pn := pn) (hK ▸ T) hz hf) hg hm PyProof.Rows.Boot.«isinstance» (pa_cons (hv a _) (pa_cons hT pa_nil hs2) hs) (he := hs) (hpl := hpl)
  refine (pt_truth P he).impV ?_
  rintro σ H Q ⟨xh, q⟩
  refine ⟨.ref a, xh.slot, ?_⟩
  refine ⟨.ref D2, .ref D2, b, rfl, fun u hu => ?_, by rw [hK]; exact hk, xh.cls, xh.dict, ?_⟩
  · exact hu
  · exact ⟨b, rfl, q⟩
end
end VL

/-! VLX4: own methods by special names: __str__, __eq__ -/
namespace VL
open PySem L2
section
variable {X : Cx} {C f : Addr} {fd : FuncData} {ps : List Str} {sp : Sp} {k : Nat} {W : WX}
/-- str(o), o's class saying __str__ -/
def rStrO (C : Addr) (sp : Sp) (W : WX) (σ : St) : List V → Hp → VK → Prop := fun xs H Q => ∃ a dx fs, xs = [.ref a] ∧ H a = some (.ins C dx fs) ∧ sp xs H (fun v H' => (∃ y, v = .str y) ∧ Q v H') (fun cls d H' => W cls d σ H')
theorem run_strO (F : FnOk X.prog X.w X.K X.mg X.base (L2.CX X.prog X.w) k f fd ps sp) (hs : PySem.W.findIn X.K (.ref C) "__str__" = some (some (.ref f))) (hf : PySem.W.isFn X.K (.ref f) = true) (hb : Binds X.K fd ps []) (tk : Takes X W) (hr : Room (k + 2) X.A)
    {pins : List (Addr × Obj)} {s : Shared} {σ : St} {H : Hp} {xs : List V} {us : List Value} {Q : VK} (I : Inv X pins σ H s) (r : Vals xs us) (h : rStrO C sp W σ xs H Q) : wpAny (model X.prog X.w) X.A (call (.type "str") us) (EP X pins σ Q) X.xe s := by
  obtain ⟨a, dx, fs, rfl, ha, hsp⟩ := h
  cases r with
  | cons rx rr =>
  cases rr
  cases rx
  obtain ⟨mA, J, _⟩ := ins_get I.hok ha
  obtain ⟨od, J, _⟩ := J.look
  have hr1 := hr.in1
  have hr2 := hr1.in1
  have hl := F.len _ _ _ _ hsp
  have r2 : Vals [V.ref a] [Value.ref a] := .cons rfl .nil
  refine PySem.W.kso_call (by have := hr2.un; omega) I.kIn J hs hf ?_
  refine wpAny_call (codeAny_mono (F.run _ X.stack s H ⟨[.ref a], []⟩ [.ref a] [.ref a] _ _ hr2 I.env0.in1.in1 (by simpa using hb s [.ref a] I.kIn (by simpa using hl)) r2 hsp) fun q s' hq => ?_)
  cases q with
  | error e => exact tk e s' (XE.of_call I (fun _ _ _ h => h) hq)
  | ok fl =>
    cases fl with
    | ret w =>
      obtain ⟨z, H', I', rz, ⟨y, rfl⟩, ex⟩ := I.after hq
      obtain ⟨t, rfl⟩ := rz
      exact ⟨.str y, H', I', ⟨t, rfl⟩, ex⟩
    | next => exact False.elim hq
    | brk => exact False.elim hq
    | cont => exact False.elim hq
end
section
variable {prog : Program} {w : World} {A : Around} {E : Value → Shared → Prop} {h : Heap} {g : Array GenState} {d : Drawn} {t : Nat} {os : OsState} {K : PySem.W.Frag} {C x f : Addr} {ox : Obj} {od : Option Obj} {y ty : Value}
/-- object.__ne__ asks an own __eq__ -/
theorem objNe_own (X : K.In h) (I : PySem.W.InstAt h x ox C od) (he : PySem.W.findIn K (.ref C) "__eq__" = some (some (.ref f))) (hf : PySem.W.isFn K (.ref f) = true) (hu : A.units < cLine) {Q : Fin → Shared → Prop}
    (hc : wpAny (model prog w) A (call (.ref f) [.ref x, y]) (fun v s' => ∃ b, v = .bool b ∧ Q (.done (.ret (.bool (!b)))) s') E ⟨h, g, d, t, os⟩) :
    wpAny (model prog w) A (Builtin.«object.__ne__» ⟨[.ref x, y], []⟩) Q E ⟨h, g, d, t, os⟩ := by
  unfold Builtin.«object.__ne__»
  repeat (first
    | with_reducible refine wpAny_cRoomFor hu ?_
    | (refine wpAny_bind (m := callSpecialIfBound? (.ref x) (Str.ofString "__eq__") [y])
        (PySem.W.ifBound_K X I he hf (wpAny_mono hc (fun r s' hr => by
          obtain ⟨b, rfl, hq⟩ := hr
          repeat (first | exact hq | exact wpAny_pure hq | exact wpAny_truthy_bool hq | (refine wpAny_bind (m := truthy (.bool _)) (wpAny_truthy_bool ?_)) | wp_step)) fun _ _ e => e)))
    | wp_step)
theorem ne_own (X : K.In h) (I : PySem.W.InstAt h x ox C od) (hb : PySem.W.Looks (model prog w) h (typeOf y) ty) (hn : PySem.W.notFirst K C ty = true) (hne : PySem.W.findIn K (.ref C) "__ne__" = some (some (.builtin "object.__ne__"))) (he : PySem.W.findIn K (.ref C) "__eq__" = some (some (.ref f))) (hf : PySem.W.isFn K (.ref f) = true)
    (ho : PySem.W.mroIn K C (.type "object") = some true) (hu : A.units + 1 < cLine) {Q : Value → Shared → Prop}
    (hc : wpAny (model prog w) A.in1 (call (.ref f) [.ref x, y]) (fun v s' => ∃ b, v = .bool b ∧ Q (.bool (!b)) s') E ⟨h, g, d, t, os⟩) :
    wpAny (model prog w) A (richCompare .NotEq (.ref x) y) Q E ⟨h, g, d, t, os⟩ := by
  have FB := F.cmp_object
  have one : wpAny (model prog w) A (tryCompare (.ref x) "__ne__" y) (fun r s' => ∃ v, r = some v ∧ Q v s') E ⟨h, g, d, t, os⟩ := by
    simp only [tryCompare]
    refine wpAny_bind ?_
    have fin0 : wpAny (model prog w) A (call (.builtin "object.__ne__") [.ref x, y]) (fun v s' => ∃ b, v = .bool b ∧ Q (.bool b) s') E ⟨h, g, d, t, os⟩ := by
      refine wpAny_call (codeAny_call_builtin FB.ne.plain F.cmpEntry_ne (PySem.W.check_slot F.cmpKind_ne F.cmpSplit_ne (I.type.andThen (PySem.W.looks_mroIn X ho)) (F.cmpArgs_ne _ _) ?_))
      refine objNe_own (A := A.in1) X I he hf hu (wpAny_mono hc (fun v s' hv => ?_) fun _ _ e => e)
      obtain ⟨b, rfl, hq⟩ := hv
      exact ⟨b, rfl, !b, rfl, hq⟩
    simp only [callSpecialIfBound?, bindSpecialIfBound?]
    refine wpAny_holding (wpAny_bind (wpAny_bind (wpAny_bind (I.type.here ((PySem.W.looks_findIn X hne).here ?_)))))
    refine wpAny_bind (wpAny_askSetting (wpAny_ite ?_))
    simp only [FB.ne.bind]
    split
    · exact wpAny_bind (wpAny_pure (wpAny_pure (wpAny_bind (wpAny_mono fin0 (fun v s' ⟨b, e, q⟩ => by subst e; exact wpAny_pure (wpAny_pure ⟨_, rfl, q⟩)) fun _ _ h' => h'))))
    · exact wpAny_tryCatch (wpAny_bind (wpAny_pure (wpAny_pure (wpAny_bind (wpAny_mono fin0 (fun v s' ⟨b, e, q⟩ => by subst e; exact wpAny_pure (wpAny_pure ⟨_, rfl, q⟩)) fun _ _ h' => h')))))
  unfold richCompare
  simp only [oneThing_ref]
  refine wpAny_holding (wpAny_bind (wpAny_cRoomFor (Nat.lt_of_succ_lt hu) ?_))
  rw [cmpInfo_NotEq]
  dsimp only
  refine wpAny_bind (I.type.here (wpAny_bind (hb.here ?_)))
  split
  · rename_i q
    have e : PySem.W.subIn K ty (.ref C) = some false := by
      rcases Bool.or_eq_true_iff.mp hn with e | e
      · rw [beq_iff_eq.mp e] at q; simp at q
      · exact beq_iff_eq.mp e
    refine wpAny_bind ((PySem.W.looks_subIn X e).here ?_)
    simp only [Bool.false_eq_true, if_false]
    refine wpAny_bind (wpAny_mono one (fun r s' z => ?_) fun _ _ e => e)
    obtain ⟨v, rfl, hq⟩ := z
    exact wpAny_pure hq
  · refine wpAny_bind (wpAny_pure ?_)
    simp only [Bool.false_eq_true, if_false]
    refine wpAny_bind (wpAny_mono one (fun r s' z => ?_) fun _ _ e => e)
    obtain ⟨v, rfl, hq⟩ := z
    exact wpAny_pure hq
end
end VL

/-! VLX5: own objects: ==, !=, str -/
namespace VL
open PySem L2
/-- a def of a class, by its name there -/
structure DefM (P : Program) (w : World) (K : Kt) (mg : Str → Option Value) (base : Heap) (cn : Nat) (name : Str) (k : Nat) (ps : List Str) (fn : Fn) : Prop where
  ex : ∃ (f : Addr) (fd : FuncData), PySem.W.findIn K.K (.ref (K.κ cn)) name = some (some (.ref f)) ∧ PySem.W.isFn K.K (.ref f) = true ∧ Binds K.K fd ps [] ∧ FnOk P w K.K mg base (L2.CX P w) k f fd ps (spF K ps.length fn)
section
variable {X : Cx} {C f : Addr} {fd : FuncData} {ps : List Str} {sp : Sp} {k : Nat} {W : WX}
/-- what stands beside an own object in == -/
def BesideV (C : Addr) (H : Hp) (y : V) : Prop := (∃ z, y = .str z) ∨ ∃ b dx fs, y = .ref b ∧ H b = some (.ins C dx fs)
def rCmpO (neg : Bool) (C : Addr) (sp : Sp) (W : WX) : R2 := fun x y H Q => ∃ a dx fs σ0, x = .ref a ∧ H a = some (.ins C dx fs) ∧ BesideV C H y ∧ sp [x, y] H (fun v H' => ∃ b, v = .bl b ∧ Q (.bl (if neg then !b else b)) H') (WE W σ0)
theorem beside_type {P : Program} {w : World} {K : PySem.W.Frag} {H : Hp} {h : Heap} {y : V} {u : Value} (hok : HOk P w H h) (hs : PySem.W.subIn K (.type "str") (.ref C) = some false) (ry : RelV y u) (b : BesideV C H y) : ∃ ty, PySem.W.Looks (model P w) h (typeOf u) ty ∧ PySem.W.notFirst K C ty = true := by
  rcases b with ⟨z, rfl⟩ | ⟨b, dx, fs, rfl, e⟩
  · obtain ⟨t, rfl⟩ := ry
    exact ⟨.type "str", .now, by unfold PySem.W.notFirst; rw [hs]; rfl⟩
  · obtain rfl : u = Value.ref b := ry
    obtain ⟨mA, J, _⟩ := ins_get hok e
    obtain ⟨od, J, _⟩ := J.look
    exact ⟨.ref C, J.type, by simp [PySem.W.notFirst]⟩
theorem run_eqO (F : FnOk X.prog X.w X.K X.mg X.base (L2.CX X.prog X.w) k f fd ps sp) (he : PySem.W.findIn X.K (.ref C) "__eq__" = some (some (.ref f))) (hf : PySem.W.isFn X.K (.ref f) = true) (hb : Binds X.K fd ps []) (hst : PySem.W.subIn X.K (.type "str") (.ref C) = some false) (hW : Flat W) (tk : Takes X W) (hr : Room k X.A) :
    OpR X (compareOp .Eq) (rCmpO false C sp W) := by
  intro pins s σ H x y v u Q I rx ry h
  obtain ⟨a, dx, fs, σ0, rfl, ha, hbe, hsp⟩ := h
  obtain rfl : v = Value.ref a := rx
  obtain ⟨mA, J, _⟩ := ins_get I.hok ha
  obtain ⟨od, J, _⟩ := J.look
  obtain ⟨ty, lt, nf⟩ := beside_type I.hok hst ry hbe
  obtain ⟨m, hF⟩ := I.fr
  have hl := F.len _ _ _ _ hsp
  have r2 : Vals [V.ref a, y] [Value.ref a, u] := .cons rfl (.cons ry .nil)
  refine PySem.W.cmp_ofEq (PySem.W.cmp_K (op := .Eq) (tb := ty) (by have := hr.un; omega) hF I.ok.mod.kin J lt nf he hf ?_)
  refine wpAny_call (codeAny_mono (F.run _ X.stack s H ⟨[.ref a, u], []⟩ [.ref a, u] [.ref a, y] _ _ hr I.env0 (by simpa using hb s [.ref a, u] I.kIn (by simpa using hl)) r2 hsp) fun q s' hq => ?_)
  cases q with
  | error e => exact tk e s' (XE.of_call I (fun _ _ _ h => hW _ _ _ _ _ h) hq)
  | ok fl =>
    cases fl with
    | ret w =>
      obtain ⟨z, H', I', rz, b, rfl, ex⟩ := I.after hq
      obtain rfl : w = Value.bool b := rz
      exact ⟨.bl b, H', I', rfl, ex⟩
    | next => exact False.elim hq
    | brk => exact False.elim hq
    | cont => exact False.elim hq
theorem run_neO (F : FnOk X.prog X.w X.K X.mg X.base (L2.CX X.prog X.w) k f fd ps sp) (he : PySem.W.findIn X.K (.ref C) "__eq__" = some (some (.ref f))) (hne : PySem.W.findIn X.K (.ref C) "__ne__" = some (some (.builtin "object.__ne__"))) (ho : PySem.W.mroIn X.K C (.type "object") = some true) (hf : PySem.W.isFn X.K (.ref f) = true) (hb : Binds X.K fd ps []) (hst : PySem.W.subIn X.K (.type "str") (.ref C) = some false) (hW : Flat W) (tk : Takes X W) (hr : Room (k + 1) X.A) :
    OpR X (compareOp .NotEq) (rCmpO true C sp W) := by
  intro pins s σ H x y v u Q I rx ry h
  obtain ⟨a, dx, fs, σ0, rfl, ha, hbe, hsp⟩ := h
  obtain rfl : v = Value.ref a := rx
  obtain ⟨mA, J, _⟩ := ins_get I.hok ha
  obtain ⟨od, J, _⟩ := J.look
  obtain ⟨ty, lt, nf⟩ := beside_type I.hok hst ry hbe
  have hl := F.len _ _ _ _ hsp
  have r2 : Vals [V.ref a, y] [Value.ref a, u] := .cons rfl (.cons ry .nil)
  refine PySem.W.cmp_ofNotEq (ne_own I.kIn J lt nf hne he hf ho (by have := hr.un; omega) ?_)
  refine wpAny_call (codeAny_mono (F.run _ X.stack s H ⟨[.ref a, u], []⟩ [.ref a, u] [.ref a, y] _ _ hr.in1 I.env0.in1 (by simpa using hb s [.ref a, u] I.kIn (by simpa using hl)) r2 hsp) fun q s' hq => ?_)
  cases q with
  | error e => exact tk e s' (XE.of_call I (fun _ _ _ h => hW _ _ _ _ _ h) hq)
  | ok fl =>
    cases fl with
    | ret w =>
      obtain ⟨z, H', I', rz, b, rfl, ex⟩ := I.after hq
      obtain rfl : w = Value.bool b := rz
      exact ⟨b, rfl, .bl (!b), H', I', rfl, ex⟩
    | next => exact False.elim hq
    | brk => exact False.elim hq
    | cont => exact False.elim hq
end
def beside (cn : Nat) : D → Bool
  | .str _ => true
  | .obj C _ _ => C == cn
  | _ => false
def boolO (neg : Bool) (d : D) (c : List Cell) : Out D := match d with
  | .bl b => .ok (.bl (if neg then !b else b)) c
  | _ => .no
def gCmpO (neg : Bool) (cn : Nat) (fn : Fn) : F2 := fun cs x y => match x with
  | .obj C ks ds => if C = cn ∧ beside cn y = true then (callV 0 fn [.obj C ks ds, y] cs).bind (boolO neg) else .no
  | _ => .no
section
variable {X : Cx} {G : Gx} {W : WX} {a b : Expr} {fa fb : Ex} {pos : Pos} {cn k : Nat} {fn : Fn} {ps : List Str}
theorem post_bool {ρ : List Addr} {F : Hp} {env : List (Option D)} {σ : St} {Q : VK} {neg : Bool} {o : Out D} (p : Post RV G W ρ F env σ Q (o.bind (boolO neg))) : Post RV G W ρ F env σ (fun v H' => ∃ b, v = .bl b ∧ Q (.bl (if neg then !b else b)) H') o := by
  cases o with
  | ok d cs =>
    cases d with
    | bl b =>
      intro ρ' F' H' v x r rv
      cases rv
      exact ⟨b, rfl, p ρ' F' H' _ x r (.bl _)⟩
    | _ => exact p.elim
  | ex e cs => exact p
  | no => exact p
theorem v2_cmpO {neg : Bool} : V2 G W (rCmpO neg (G.K.κ cn) (spF G.K 2 fn) W) (gCmpO neg cn fn) := by
  intro ρ F st σ H x y v w Q r h1 h2 p
  cases h1 with
  | obj h hl hr =>
    unfold gCmpO at p
    dsimp only at p
    rename_i a dx C ks vs ds
    by_cases c : C = cn ∧ beside cn y = true
    · rw [if_pos c] at p
      obtain ⟨rfl, c⟩ := c
      refine ⟨a, dx, _, σ, rfl, r.fz _ _ h, ?_, callV_of (m := 2) (n := 0) (fn := fn) r (.cons (.obj h hl hr) (.cons h2 .nil)) rfl (post_bool p)⟩
      cases h2 with
      | str z => exact .inl ⟨z, rfl⟩
      | obj h' hl' hr' =>
        have e := beq_iff_eq.mp c
        subst e
        exact .inr ⟨_, _, _, rfl, r.fz _ _ h'⟩
      | _ => cases c
    · rw [if_neg c] at p
      exact p.elim
  | _ => exact p.elim
/-- what the written part says of the class, for == and != -/
structure EqC (K : Kt) (cn : Nat) : Prop where
  ne : PySem.W.findIn K.K (.ref (K.κ cn)) "__ne__" = some (some (.builtin "object.__ne__"))
  ob : PySem.W.mroIn K.K (K.κ cn) (.type "object") = some true
  st : PySem.W.subIn K.K (.type "str") (.ref (K.κ cn)) = some false
theorem de_eqO (d : DefM X.prog X.w G.K X.mg X.base cn "__eq__" k ps fn) (hp : ps.length = 2) (T : EqC G.K cn) (hK : X.K = G.K.K) (hW : Flat W) (tk : Takes X W) (hr : Room k X.A) (ha : PE X a (tE G W fa)) (hb : PE X b (tE G W fb)) : PE X (.Compare a [.Eq] [b] pos) (tE G W (eOp (gCmpO false cn fn) fa fb)) := by
  obtain ⟨f, fd, h1, h2, h3, h4⟩ := d.ex
  rw [hp, ← hK] at h4
  rw [← hK] at h1 h2 h3
  exact de_cmp (run_eqO h4 h1 h2 h3 (hK ▸ T.st) hW tk hr) v2_cmpO ha hb (nomark _)
theorem dt_eqO (d : DefM X.prog X.w G.K X.mg X.base cn "__eq__" k ps fn) (hp : ps.length = 2) (T : EqC G.K cn) (hK : X.K = G.K.K) (hW : Flat W) (tk : Takes X W) (hr : Room k X.A) (ha : PE X a (tE G W fa)) (hb : PE X b (tE G W fb)) : PT X (.Compare a [.Eq] [b] pos) (tTs G W (tCmp' (gCmpO false cn fn) fa fb)) := by
  obtain ⟨f, fd, h1, h2, h3, h4⟩ := d.ex
  rw [hp, ← hK] at h4
  rw [← hK] at h1 h2 h3
  exact dt_cmp (run_eqO h4 h1 h2 h3 (hK ▸ T.st) hW tk hr) v2_cmpO ha hb (nomark _)
theorem dt_neO (d : DefM X.prog X.w G.K X.mg X.base cn "__eq__" k ps fn) (hp : ps.length = 2) (T : EqC G.K cn) (hK : X.K = G.K.K) (hW : Flat W) (tk : Takes X W) (hr : Room (k + 1) X.A) (ha : PE X a (tE G W fa)) (hb : PE X b (tE G W fb)) : PT X (.Compare a [.NotEq] [b] pos) (tTs G W (tCmp' (gCmpO true cn fn) fa fb)) := by
  obtain ⟨f, fd, h1, h2, h3, h4⟩ := d.ex
  rw [hp, ← hK] at h4
  rw [← hK] at h1 h2 h3
  exact dt_cmp (run_neO h4 h1 (hK ▸ T.ne) (hK ▸ T.ob) h2 h3 (hK ▸ T.st) hW tk hr) v2_cmpO ha hb (nomark _)
/-! ### str(o) -/
def strO (d : D) (c : List Cell) : Out D := match d with
  | .str y => .ok (.str y) c
  | _ => .no
def hStrO (cn : Nat) (fn : Fn) : FB := fun cs xs => match xs with
  | [.obj C ks ds] => if C = cn then (callV 0 fn [.obj C ks ds] cs).bind strO else .no
  | _ => .no
theorem call_strO (d : DefM X.prog X.w G.K X.mg X.base cn "__str__" k ps fn) (hp : ps.length = 1) (hK : X.K = G.K.K) (hW : Flat W) (tk : Takes X W) (hr : Room (k + 2) X.A) : CallR X (.type "str") (fun xs H Q => ∃ σ0, rStrO (G.K.κ cn) (spF G.K 1 fn) W σ0 xs H Q) := by
  obtain ⟨f, fd, h1, h2, h3, h4⟩ := d.ex
  rw [hp, ← hK] at h4
  rw [← hK] at h1 h2 h3
  intro pins s σ H xs us Q I r ⟨σ0, q⟩
  refine run_strO h4 h1 h2 h3 tk hr I r ?_
  obtain ⟨a, dx, fs, rfl, ha, hsp⟩ := q
  refine ⟨a, dx, fs, rfl, ha, ?_⟩
  obtain ⟨ρ0, F0, ds, cs, r0, rv, hl, po⟩ := hsp
  refine ⟨ρ0, F0, ds, cs, r0, rv, hl, ?_⟩
  cases e : fn ds cs with
  | ok d cs' => rw [e] at po; exact po
  | ex d cs' => rw [e] at po; exact fun ρ F H cls dx x r xa => hW _ _ _ _ _ (po ρ F H cls dx x r xa)
  | no => rw [e] at po; exact po
theorem vn_strO : VN G W (fun xs H Q => ∃ σ0, rStrO (G.K.κ cn) (spF G.K 1 fn) W σ0 xs H Q) (hStrO cn fn) := by
  intro ρ F st σ H ds vs Q r rv p
  unfold hStrO at p
  split at p
  · rename_i C ks ds
    cases rv with
    | cons h1 h2 =>
      cases h2
      cases h1 with
      | obj h hl hr =>
        by_cases c : C = cn
        · subst c
          rw [if_pos rfl] at p
          refine ⟨σ, _, _, _, rfl, r.fz _ _ h, callV_of (m := 1) (n := 0) (fn := fn) r (.cons (.obj h hl hr) .nil) rfl ?_⟩
          cases o : callV 0 fn [.obj C ks ds] st.cs with
          | ok d cs =>
            rw [o] at p
            cases d with
            | str y =>
              intro ρ' F' H' v x r rv
              cases rv
              exact ⟨⟨y, rfl⟩, p ρ' F' H' _ x r (.str _)⟩
            | _ => exact p.elim
          | ex e cs => rw [o] at p; exact p
          | no => rw [o] at p; exact p
        · rw [if_neg c] at p
          exact p.elim
  · exact p.elim
end
end VL

/-! VLX6: texts, starred displays, all -/
namespace VL
open PySem L2 PyProof.Rows
section
variable {X : Cx} {G : Gx} {W : WX} {e a : Expr} {es : List Expr} {fa fb : Ex} {g : Ax} {pos p apos : Pos}
def aStar (fa : Ex) (g : Ax) : Ax := fun st => (fa st).bind fun x c1 => match seqOf c1 x with
  | some xs => (g ⟨st.env, c1⟩).bind fun ys c2 => .ok (xs ++ ys) c2
  | none => .no
theorem da_star (hK : X.K = G.K.K) (h : PE X e (tE G W fa)) (hr : PA X es (tAs G W g)) (hs : starEach (.Starred e p :: es) X.env = (true, eval e X.env) :: starEach es X.env := by rfl) : PA X (.Starred e p :: es) (tAs G W (aStar fa g)) := by
  refine (StX.pa_star h hr hs).impV fun σ H Q ⟨ρ, F, st, r, po⟩ => seqX r po fun ρ1 F1 H1 x c1 v x1 r1 rv1 p1 => ?_
  cases q : seqOf c1 x with
  | none => rw [q] at p1; exact p1.elim
  | some xs =>
    rw [q] at p1
    obtain ⟨a, vs, rfl, hsq, rvs⟩ := seq_read (st := ⟨st.env, c1⟩) r1 rv1 q
    rw [hK]
    refine ⟨a, vs, rfl, hsq.symm, ?_⟩
    exact seqX (st := ⟨st.env, c1⟩) r1 p1 fun ρ2 F2 H2 ys c2 ws x2 r2 rv2 p2 => p2.here (st := ⟨st.env, c2⟩) r2 ((rvs.ext x2).append rv2)
def strsOf : List D → Option (List Str)
  | [] => some []
  | .str x :: r => (strsOf r).map (x :: ·)
  | _ => none
theorem strs_read {K : Kt} {ρ : List Addr} {F : Hp} : ∀ {ds : List D} {vs : List V} {ys : List Str}, RVs K ρ F ds vs → strsOf ds = some ys → vs = ys.map V.str
  | [], _, _, .nil, h => by cases h; rfl
  | d :: ds, _, ys, .cons hd hr, h => by
    cases d with
    | str x =>
      have h : (strsOf ds).map (x :: ·) = some ys := h
      cases q : strsOf ds with
      | none => rw [q] at h; cases h
      | some zs =>
        rw [q] at h
        cases h
        cases hd
        rw [strs_read hr q]
        rfl
    | _ => cases h
/-- a text's method with one argument -/
def eMS (g : Str → List Cell → D → Out D) (fa fb : Ex) : Ex := fun st => (fa st).bind fun x c1 => match x with
  | .str z => (fb ⟨st.env, c1⟩).bind fun y c2 => g z c2 y
  | _ => .no
theorem tM1_of {r : V → List V → Hp → VK → Prop} {g : Str → List Cell → D → Out D} (h : ∀ (ρ : List Addr) (F : Hp) (st : S) (σ : L2.St) (H : Hp) (z : Str) (y : D) (w : V) (Q : VK), Rel G ρ F st σ H → RV G.K ρ F y w → Post RV G W ρ F st.env σ Q (g z st.cs y) → r (.str z) [w] H Q) : ∀ σ H Q, tE G W (eMS g fa fb) σ H Q → tM1 r (tE G W fa) (tE G W fb) σ H Q := by
  intro σ H Q ⟨ρ, F, st, r', po⟩
  refine seqX r' po fun ρ1 F1 H1 x c1 v x1 r1 rv1 p1 => ?_
  cases rv1 with
  | str z => exact ⟨⟨z, rfl⟩, seqX (st := ⟨st.env, c1⟩) r1 p1 fun ρ2 F2 H2 y c2 w x2 r2 rv2 p2 => h ρ2 F2 ⟨st.env, c2⟩ σ H2 z y w Q r2 rv2 p2⟩
  | _ => exact p1.elim
def joinOk (a : Str) (ys : List Str) : Bool := decide ((ys.map (·.length)).sum + ys.length * a.length ≤ 16777216)
def gJoin (z : Str) (cs : List Cell) (y : D) : Out D := match seqOf cs y with
  | some ds => (match strsOf ds with
    | some ys => if joinOk z ys then .ok (.str (Txt.join z ys)) cs else .no
    | none => .no)
  | none => .no
theorem de_join (hK : X.K = G.K.K) (ho : PE X a (tE G W fa)) (he : PE X e (tE G W fb)) (hs : starEach [e] X.env = [(false, eval e X.env)] := by rfl) (hbase : attributeBase a "join" X.env (eval a X.env) = eval a X.env := by rfl) (hline : (apos.endLine == pos.line) = true := by rfl) :
    PE X (.Call (.Attribute a "join" apos) [e] [] pos) (tE G W (eMS gJoin fa fb)) := by
  refine (pe_join ho he hs hbase hline).impV (tM1_of fun ρ F st σ H z y w Q r rv p => ?_)
  unfold gJoin at p
  cases q : seqOf st.cs y with
  | none => rw [q] at p; exact p.elim
  | some ds =>
    rw [q] at p
    obtain ⟨b, vs, rfl, hsq, rvs⟩ := seq_read r rv q
    cases q2 : strsOf ds with
    | none => simp only [q2] at p; exact p.elim
    | some ys =>
      simp only [q2] at p
      have ev := strs_read rvs q2
      subst ev
      by_cases c : joinOk z ys = true
      · rw [if_pos c] at p
        exact ⟨z, b, ys, rfl, rfl, by rw [hK]; exact hsq, of_decide_eq_true c, p.here r (.str _)⟩
      · rw [if_neg c] at p
        exact p.elim
def gSplit (z : Str) (cs : List Cell) (y : D) : Out D := match y with
  | .str b => if (b.length == 0) = false ∧ z.length + 2 ≤ 16777216 then .ok (.lst ((Txt.split z b).map .str)) cs else .no
  | _ => .no
theorem rvs_strs {K : Kt} {ρ : List Addr} {F : Hp} : ∀ {ys : List Str}, RVs K ρ F (ys.map D.str) (ys.map V.str)
  | [] => .nil
  | y :: ys => .cons (.str y) rvs_strs
theorem de_split (ho : PE X a (tE G W fa)) (he : PE X e (tE G W fb)) (hs : starEach [e] X.env = [(false, eval e X.env)] := by rfl) (hbase : attributeBase a "split" X.env (eval a X.env) = eval a X.env := by rfl) (hline : (apos.endLine == pos.line) = true := by rfl) :
    PE X (.Call (.Attribute a "split" apos) [e] [] pos) (tE G W (eMS gSplit fa fb)) := by
  refine (pe_split ho he hs hbase hline).impV (tM1_of fun ρ F st σ H z y w Q r rv p => ?_)
  unfold gSplit at p
  cases rv with
  | str b =>
    dsimp only at p
    by_cases c : (b.length == 0) = false ∧ z.length + 2 ≤ 16777216
    · rw [if_pos c] at p
      refine ⟨z, b, rfl, rfl, c.1, line_of c.2, fun q hq => ?_⟩
      obtain ⟨x3, r3⟩ := r.fresh (o := .lst ((Txt.split z b).map V.str)) hq
      exact p _ _ _ _ x3 r3 (.lst upd_same rvs_strs)
    · rw [if_neg c] at p
      exact p.elim
  | _ => exact p.elim
/-! ### int(text), str(int), str(text), all -/
def hIntS : FB := fun cs xs => match xs with
  | [.str z] => (match PySem.intText? z with
    | some n => if z.length ≤ 640 then .ok (.int n) cs else .no
    | none => .no)
  | _ => .no
theorem de_intS (hg : Gl X "int") (hm : X.mg "int" = none) (ha : PA X (e :: es) (tAs G W g)) (he : starEach (e :: es) X.env = (false, eval e X.env) :: starEach es X.env := by rfl) (hpl : (backTo pos (starEach es X.env)).any (·.1) = false := by rfl) : PE X (.Call (.Name "int" p) (e :: es) [] pos) (tE G W (eB hIntS g)) := by
  refine de_callTy call_int_str ?_ hg hm boot_int ha (he := he) (hpl := hpl)
  intro ρ F st σ H ds vs Q r rv p
  unfold hIntS at p
  split at p
  · rename_i z
    cases rv with
    | cons h1 h2 =>
      cases h2
      cases h1
      cases q : PySem.intText? z with
      | none => rw [q] at p; exact p.elim
      | some n =>
        rw [q] at p
        dsimp only at p
        by_cases c : z.length ≤ 640
        · rw [if_pos c] at p
          exact ⟨z, n, rfl, q, c, p.here r (.int _)⟩
        · rw [if_neg c] at p
          exact p.elim
  · exact p.elim
def hStrI : FB := fun cs xs => match xs with
  | [.int i] => if i.natAbs.log2 < 1920 then .ok (.str (toString i)) cs else .no
  | _ => .no
theorem de_strI (hg : Gl X "str") (hm : X.mg "str" = none) (ha : PA X (e :: es) (tAs G W g)) (he : starEach (e :: es) X.env = (false, eval e X.env) :: starEach es X.env := by rfl) (hpl : (backTo pos (starEach es X.env)).any (·.1) = false := by rfl) : PE X (.Call (.Name "str" p) (e :: es) [] pos) (tE G W (eB hStrI g)) := by
  refine de_callTy call_str_int ?_ hg hm boot_str ha (he := he) (hpl := hpl)
  intro ρ F st σ H ds vs Q r rv p
  unfold hStrI at p
  split at p
  · rename_i i
    cases rv with
    | cons h1 h2 =>
      cases h2
      cases h1
      by_cases c : i.natAbs.log2 < 1920
      · rw [if_pos c] at p
        exact ⟨i, rfl, c, p.here r (.str _)⟩
      · rw [if_neg c] at p
        exact p.elim
  · exact p.elim
def hStrS : FB := fun cs xs => match xs with
  | [.str z] => .ok (.str z) cs
  | _ => .no
theorem de_strS (hg : Gl X "str") (hm : X.mg "str" = none) (ha : PA X (e :: es) (tAs G W g)) (he : starEach (e :: es) X.env = (false, eval e X.env) :: starEach es X.env := by rfl) (hpl : (backTo pos (starEach es X.env)).any (·.1) = false := by rfl) : PE X (.Call (.Name "str" p) (e :: es) [] pos) (tE G W (eB hStrS g)) := by
  refine de_callTy SkE.call_str_str ?_ hg hm boot_str ha (he := he) (hpl := hpl)
  intro ρ F st σ H ds vs Q r rv p
  unfold hStrS at p
  split at p
  · rename_i z
    cases rv with
    | cons h1 h2 =>
      cases h2
      cases h1
      exact ⟨z, rfl, p.here r (.str _)⟩
  · exact p.elim
theorem de_strObj {cn k : Nat} {ps : List Str} {fn : Fn} (d : DefM X.prog X.w G.K X.mg X.base cn "__str__" k ps fn) (hp : ps.length = 1) (hK : X.K = G.K.K) (hW : Flat W) (tk : Takes X W) (hr : Room (k + 2) X.A) (hg : Gl X "str") (hm : X.mg "str" = none) (ha : PA X (e :: es) (tAs G W g)) (he : starEach (e :: es) X.env = (false, eval e X.env) :: starEach es X.env := by rfl) (hpl : (backTo pos (starEach es X.env)).any (·.1) = false := by rfl) : PE X (.Call (.Name "str" p) (e :: es) [] pos) (tE G W (eB (hStrO cn fn) g)) :=
  de_callTy (call_strO d hp hK hW tk hr) vn_strO hg hm boot_str ha (he := he) (hpl := hpl)
def boolsOf : List D → Option (List Bool)
  | [] => some []
  | .bl x :: r => (boolsOf r).map (x :: ·)
  | _ => none
theorem bools_read {K : Kt} {ρ : List Addr} {F : Hp} : ∀ {ds : List D} {vs : List V} {ys : List Bool}, RVs K ρ F ds vs → boolsOf ds = some ys → vs = ys.map V.bl
  | [], _, _, .nil, h => by cases h; rfl
  | d :: ds, _, ys, .cons hd hr, h => by
    cases d with
    | bl x =>
      have h : (boolsOf ds).map (x :: ·) = some ys := h
      cases q : boolsOf ds with
      | none => rw [q] at h; cases h
      | some zs =>
        rw [q] at h
        cases h
        cases hd
        rw [bools_read hr q]
        rfl
    | _ => cases h
def hAll : FB := fun cs xs => match xs with
  | [d] => (match lstOf cs d with
    | some ds => (match boolsOf ds with
      | some bs => .ok (.bl (bs.all id)) cs
      | none => .no)
    | none => .no)
  | _ => .no
theorem de_all (hK : X.K = G.K.K) (hc : X.calm = true) (hg : Gl X "all") (hm : X.mg "all" = none) (ha : PA X (e :: es) (tAs G W g)) (he : starEach (e :: es) X.env = (false, eval e X.env) :: starEach es X.env := by rfl) (hpl : (backTo pos (starEach es X.env)).any (·.1) = false := by rfl) : PE X (.Call (.Name "all" p) (e :: es) [] pos) (tE G W (eB hAll g)) := by
  refine de_callB (cr_all hc) ?_ hg hm boot_all ha (he := he) (hpl := hpl)
  intro ρ F st σ H ds vs Q r rv p
  unfold hAll at p
  split at p
  · rename_i d
    cases rv with
    | cons h1 h2 =>
      cases h2
      cases q : lstOf st.cs d with
      | none => rw [q] at p; exact p.elim
      | some ds =>
        rw [q] at p
        obtain ⟨b, vs, rfl, hsq, rvs⟩ := lst_read r h1 q
        cases q2 : boolsOf ds with
        | none => simp only [q2] at p; exact p.elim
        | some bs =>
          simp only [q2] at p
          have ev := bools_read rvs q2
          subst ev
          exact ⟨b, bs, rfl, by rw [hK]; exact hsq, p.here r (.bl _)⟩
  · exact p.elim
end
end VL

/-! VLX7: isinstance by a table of answers; chains -/
namespace VL
open PySem L2 PyProof.Rows
inductive Ty where
  | t (n : String)
  | c (C : Nat)
def Ty.val (K : Kt) : Ty → Value
  | .t n => .type n
  | .c C => .ref (K.κ C)
def tyG (cs : List Cell) : D → Option Ty
  | .obj C _ _ => some (.c C)
  | d => (tyD cs d).map .t
/-- what isinstance asks of an own class -/
structure InsC (K : PySem.W.Frag) (C : Addr) : Prop where
  cl : Cls K C
  ha : PySem.W.findIn K (.ref C) "__class__" = some (some (.builtin "object.__class__"))
  hn : PySem.W.specialIn K (.builtin "object.__class__") "__get__" = some (some (.builtin "getset_descriptor.__get__"))
  htk : PySem.W.takesIn K (.builtin "object.__class__") = some true
  hm : PySem.W.mroIn K C (.type "object") = some true
/-- the answers of isinstance(x, u) by x's type -/
def AnsOk (K : Kt) (u : Value) (ans : Ty → Option Bool) : Prop := ∀ t b, ans t = some b → PySem.W.kitOne K.K (t.val K) u = some b ∧ ∀ C, t = .c C → InsC K.K (K.κ C)
def gIsiG (ans : Ty → Option Bool) : F1 := fun cs x => match tyG cs x with
  | some t => (match ans t with
    | some k => .ok (.bl k) cs
    | none => .no)
  | none => .no
section
variable {X : Cx} {G : Gx} {W : WX} {e a b c : Expr} {es : List Expr} {fa fb fc : Ex} {g : Ax} {pos p p1 p2 : Pos} {ans : Ty → Option Bool} {x : Str}
theorem tyX_G {ρ : List Addr} {F : Hp} {st : S} {σ : L2.St} {H : Hp} {x : D} {v : V} {t : Ty} (r : Rel G ρ F st σ H) (h : RV G.K ρ F x v) (e : tyG st.cs x = some t) (hi : ∀ C, t = .c C → InsC G.K.K (G.K.κ C)) : TyX G.K.K H v (t.val G.K) := by
  have other : ∀ {y : D}, RV G.K ρ F y v → (tyD st.cs y).map Ty.t = some t → TyX G.K.K H v (t.val G.K) := by
    intro y hy e
    cases q : tyD st.cs y with
    | none => rw [q] at e; cases e
    | some n =>
      rw [q] at e
      cases e
      exact tyX_of r hy q
  cases h with
  | obj h1 h2 h3 =>
    cases e
    have i := hi _ rfl
    exact .base (.ins (r.fz _ _ h1) i.cl i.ha i.hn i.htk i.hm)
  | cls C => exact other (.cls C) e
  | non => exact other .non e
  | bl b => exact other (.bl b) e
  | int i => exact other (.int i) e
  | str z => exact other (.str z) e
  | tup h1 h2 => exact other (.tup h1 h2) e
  | lst h1 h2 => exact other (.lst h1 h2) e
  | frl h1 h2 => exact other (.frl h1 h2) e
  | loc h1 => exact other (.loc h1) e
theorem isiG_of {u : Value} {cv : V} (hK : X.K = G.K.K) (k : ClsV cv u) (ha : AnsOk G.K u ans) : ∀ σ H Q, tE G W (eUn (gIsiG ans) fa) σ H Q → tE G W fa σ H fun v H1 => rIsi X.K [v, cv] H1 Q := by
  rintro σ H Q ⟨ρ, F, st, r, po⟩
  refine seqX r po fun ρ1 F1 H1 x c1 v x1 r1 rv1 p1 => ?_
  unfold gIsiG at p1
  cases q : tyG c1 x with
  | none => rw [q] at p1; exact p1.elim
  | some t =>
    rw [q] at p1
    simp only at p1
    cases q2 : ans t with
    | none => rw [q2] at p1; exact p1.elim
    | some kk =>
      rw [q2] at p1
      rw [hK]
      obtain ⟨h1, h2⟩ := ha t kk q2
      exact ⟨v, cv, t.val G.K, u, kk, rfl, k, tyX_G (st := ⟨st.env, c1⟩) r1 rv1 q h2, h1, p1.here (st := ⟨st.env, c1⟩) r1 (.bl _)⟩
theorem de_isiB {T : String} (hK : X.K = G.K.K) (hans : AnsOk G.K (.type T) ans) (hg : Gl X "isinstance") (hm : X.mg "isinstance" = none) (hgT : Gl X x) (hmT : X.mg x = none) (hbT : bootBuiltins x = some (.type T)) (ha : PE X a (tE G W fa)) (hn : x ≠ "__name__" := by decide) (hd : (x == ("__debug__" : Str)) = false := by decide)
    (hs : starEach [a, .Name x p2] X.env = (false, eval a X.env) :: starEach [.Name x p2] X.env := by rfl) (hpl : (backTo pos (starEach [.Name x p2] X.env)).any (·.1) = false := by rfl) (hs2 : starEach [.Name x p2] X.env = (false, eval (.Name x p2) X.env) :: starEach [] X.env := by rfl) :
    PE X (.Call (.Name "isinstance" p1) [a, .Name x p2] [] pos) (tE G W (eUn (gIsiG ans) fa)) := by
  have hT : PE X (.Name x p2) (tC (.ty T)) := pe_bltn hgT hmT hbT rfl hn hd
  exact (pe_callB call_isi hg hm boot_isinstance (pa_cons ha (pa_cons hT pa_nil hs2) hs) (he := hs) (hpl := hpl)).impV (isiG_of hK (.ty T) hans)
theorem de_isiO {C2 : Addr} (hK : X.K = G.K.K) (hans : AnsOk G.K (.ref C2) ans) (hg : Gl X "isinstance") (hm : X.mg "isinstance" = none) (hgT : Gl X x) (hmT : X.mg x = some (.ref C2)) (ha : PE X a (tE G W fa)) (hd : (x == ("__debug__" : Str)) = false := by decide)
    (hs : starEach [a, .Name x p2] X.env = (false, eval a X.env) :: starEach [.Name x p2] X.env := by rfl) (hpl : (backTo pos (starEach [.Name x p2] X.env)).any (·.1) = false := by rfl) (hs2 : starEach [.Name x p2] X.env = (false, eval (.Name x p2) X.env) :: starEach [] X.env := by rfl) :
    PE X (.Call (.Name "isinstance" p1) [a, .Name x p2] [] pos) (tE G W (eUn (gIsiG ans) fa)) := by
  have hT : PE X (.Name x p2) (tC (.ref C2)) := pe_glob hgT hmT rfl hd
  exact (pe_callB call_isi hg hm boot_isinstance (pa_cons ha (pa_cons hT pa_nil hs2) hs) (he := hs) (hpl := hpl)).impV (isiG_of hK (.own C2) hans)
/-! ### a < b < c -/
def tChn (g1 g2 : F2) (fa fb fc : Ex) : Tx := fun st => (fa st).bind fun x c1 => (fb ⟨st.env, c1⟩).bind fun y c2 => (g1 c2 x y).bind fun d c3 => match d with
  | .bl true => (fc ⟨st.env, c3⟩).bind fun z c4 => (g2 c4 y z).bind fun d' c5 => (match d' with
    | .bl k => .ok k c5
    | _ => .no)
  | .bl false => .ok false c3
  | _ => .no
theorem dt_chain {op op' : CmpOp} {r r' : R2} {g1 g2 : F2} (ho : OpR X (compareOp op) r) (ho' : OpR X (compareOp op') r') (hv : V2 G W r g1) (hv' : V2 G W r' g2) (ha : PE X a (tE G W fa)) (hb : PE X b (tE G W fb)) (hc : PE X c (tE G W fc)) (hm : lastMarks [op, op'] [b, c] = false := by with_unfolding_all rfl) :
    PT X (.Compare a [op, op'] [b, c] pos) (tTs G W (tChn g1 g2 fa fb fc)) := by
  refine (pt_chain ho ho' ha hb hc hm).impV ?_
  rintro σ H Q ⟨ρ, F, st, r0, po⟩
  refine seqX r0 po fun ρ1 F1 H1 x c1 v x1 r1 rv1 p1 => seqX (st := ⟨st.env, c1⟩) r1 p1 fun ρ2 F2 H2 y c2 w x2 r2 rv2 p2 => ?_
  refine hv ρ2 F2 ⟨st.env, c2⟩ σ H2 x y v w _ r2 (rv1.ext x2) rv2 ?_
  show Post RV G W ρ2 F2 st.env σ _ (g1 c2 x y)
  cases q : g1 c2 x y with
  | no => rw [q] at p2; exact p2.elim
  | ex e cs => rw [q] at p2; exact p2
  | ok d c3 =>
    rw [q] at p2
    intro ρ3 F3 H3 z x3 r3 rv3
    cases d with
    | bl k =>
      cases rv3
      refine ⟨k, rfl, ?_⟩
      cases k with
      | false => exact ⟨false, rfl, p2 ρ3 F3 H3 false x3 r3 rfl⟩
      | true =>
        have p3 := Post.ext x3 p2
        refine seqX (st := ⟨st.env, c3⟩) r3 p3 fun ρ4 F4 H4 z c4 u x4 r4 rv4 p4 => ?_
        refine hv' ρ4 F4 ⟨st.env, c4⟩ σ H4 y z w u _ r4 ((rv2.ext x3).ext x4) rv4 ?_
        show Post RV G W ρ4 F4 st.env σ _ (g2 c4 y z)
        cases q4 : g2 c4 y z with
        | no => rw [q4] at p4; exact p4.elim
        | ex e cs => rw [q4] at p4; exact p4
        | ok d5 c5 =>
          rw [q4] at p4
          intro ρ5 F5 H5 z5 x5 r5 rv5
          cases d5 with
          | bl k5 =>
            cases rv5
            exact ⟨k5, rfl, p4 ρ5 F5 H5 k5 x5 r5 rfl⟩
          | _ => exact p4.elim
    | _ => exact p2.elim
end
end VL

/-! VLX8: x in a sequence of data of any depth -/
namespace VL
open PySem L2 PyProof.Rows
section
variable {X : Cx} {G : Gx} {W : WX} {a b : Expr} {fa fb : Ex} {pos : Pos}
def rInT (neg : Bool) (K : PySem.W.Frag) : R2 := fun x y H Q => ∃ d ds, Dp K H x d ∧ Dp K H y (.tuple ds) ∧ SeqAt.shaped d = true ∧ SeqAt.shaped (.tuple ds) = true ∧ Q (.bl (if neg then !(ds.any fun z => PyData.eqv z d) else ds.any fun z => PyData.eqv z d)) H
theorem op_inT (hu : X.A.units + 65 < cLine) : OpR X (compareOp .In) (rInT false X.K) := by
  intro pins s σ H x y v u Q I rx ry h
  obtain ⟨d, ds, hd, he, sd, se, q⟩ := h
  obtain ⟨as, r1⟩ := Dp.reads I d x v hd rx
  obtain ⟨bs, r2⟩ := Dp.reads I (.tuple ds) y u he ry
  exact SeqAt.in_tuple_reads r2 r1 (SeqAt.canLay_of_shaped se) (SeqAt.canLay_of_shaped sd) (room_in_shaped sd hu) ⟨.bl _, H, I, rfl, q⟩
theorem op_notInT (hu : X.A.units + 65 < cLine) : OpR X (compareOp .NotIn) (rInT true X.K) := by
  intro pins s σ H x y v u Q I rx ry h
  obtain ⟨d, ds, hd, he, sd, se, q⟩ := h
  obtain ⟨as, r1⟩ := Dp.reads I d x v hd rx
  obtain ⟨bs, r2⟩ := Dp.reads I (.tuple ds) y u he ry
  exact SeqAt.notIn_tuple_reads r2 r1 (SeqAt.canLay_of_shaped se) (SeqAt.canLay_of_shaped sd) (room_in_shaped sd hu) ⟨.bl _, H, I, rfl, q⟩
def gInT (neg : Bool) : F2 := fun cs x y => match y with
  | .tup ds => if VL.plain (norm cs x) && SeqAt.shaped (py (norm cs x)) && plains ds && SeqAt.shaped (.tuple (pys ds)) then .ok (.bl (if neg then !((pys ds).any fun z => PyData.eqv z (py (norm cs x))) else (pys ds).any fun z => PyData.eqv z (py (norm cs x)))) cs else .no
  | _ => .no
theorem v2_inT {neg : Bool} : V2 G W (rInT neg G.K.K) (gInT neg) := by
  intro ρ F st σ H x y v w Q r h1 h2 p
  unfold gInT at p
  cases y with
  | tup ds =>
    dsimp only at p
    by_cases c : (VL.plain (norm st.cs x) && SeqAt.shaped (py (norm st.cs x)) && plains ds && SeqAt.shaped (.tuple (pys ds))) = true
    · rw [if_pos c] at p
      simp only [Bool.and_eq_true] at c
      refine ⟨_, _, dp_norm r h1 c.1.1.1, dp_norm (x := .tup ds) r h2 (by show VL.plain (.tup ds) = true; unfold VL.plain; exact c.1.2), c.1.1.2, c.2, p.here r (.bl _)⟩
    · rw [if_neg c] at p
      exact p.elim
  | _ => exact p.elim
theorem dt_notinT (hK : X.K = G.K.K) (hu : X.A.units + 65 < cLine) (ha : PE X a (tE G W fa)) (hb : PE X b (tE G W fb)) (hm : behindInMarks .NotIn b = false) : PT X (.Compare a [.NotIn] [b] pos) (tTs G W (tCmp' (gInT true) fa fb)) := dt_cmp (op_notInT hu) (by rw [hK]; exact v2_inT) ha hb hm
theorem dt_inT (hK : X.K = G.K.K) (hu : X.A.units + 65 < cLine) (ha : PE X a (tE G W fa)) (hb : PE X b (tE G W fb)) (hm : behindInMarks .In b = false) : PT X (.Compare a [.In] [b] pos) (tTs G W (tCmp' (gInT false) fa fb)) := dt_cmp (op_inT hu) (by rw [hK]; exact v2_inT) ha hb hm
end
end VL

/-! VLX9: classmethods; a class that a local name holds is called -/
namespace VL
open PySem L2 PyProof.Rows
section
variable {X : Cx} {G : Gx} {W : WX} {o e : Expr} {es : List Expr} {g : Ax} {pos p apos : Pos} {x : Str} {cn k i n : Nat} {fn : Fn} {f : Addr} {fd : FuncData} {ps : List Str}
theorem pe_makeL {CX : CXT} {C : Addr} {sp : Sp} {E : XK} {t : TA} (M : Mk X.K C f) (F : FnOk X.prog X.w X.K X.mg X.base CX k f fd ps sp) (hr : Room (k + 1) X.A) (hN : X.N[i]? = some x) (hv : Vis X.env.scope x) (hb : Binds X.K fd ps []) (hx : Passes CX X E) (ha : PA X (e :: es) t)
    (hdb : (x == ("__debug__" : Str)) = false := by decide) (hcd : (x == ("__classdict__" : Str)) = false := by decide) (he : starEach (e :: es) X.env = (false, eval e X.env) :: starEach es X.env := by rfl) (hpl : (backTo pos (starEach es X.env)).any (·.1) = false := by rfl) :
    PE X (.Call (.Name x p) (e :: es) [] pos) (fun σ H Q => σ[i]? = some (some (.ref C)) ∧ tMake C sp [] E t σ H Q) := by
  refine ⟨fun pins s σ H Q I h => ?_⟩
  refine wpAny_Call_Name_kw (thn ((pe_var (pos := p) hN hv hdb hcd).run pins s σ H (fun v H1 => v = .ref C ∧ H1 = H) I ⟨.ref C, h.1, rfl, rfl⟩) fun u s1 ⟨v, H1, I1, r1, q1⟩ => ?_)
  obtain ⟨e1, e2⟩ := q1
  subst e1 e2
  obtain rfl : u = Value.ref C := r1
  refine PySem.W.callWith_K (h₀ := X.base) I1.ok.mod.kin M.kp (thn (ha.run pos pins s1 σ _ _ I1 h.2) fun us s2 ⟨vs, H2, I2, r, q⟩ => ⟨I2.kIn, ?_⟩) he hpl
  exact run_make M F hr hb .nil hx I2 r q
def eMakeL (i cn : Nat) (fn : Fn) (g : Ax) : Ex := fun st => match st.env[i]? with
  | some (some (.cls c)) => if c = cn then (g st).bind fun ds c1 => makeD cn fn ds c1 else .no
  | _ => .no
theorem de_makeL (hW : Flat W) (tk : Takes X W) (M : Mk X.K (G.K.κ cn) f) (hF : FnOk X.prog X.w X.K X.mg X.base (L2.CX X.prog X.w) k f fd ps (spF G.K ps.length fn)) (hr : Room (k + 1) X.A) (hN : X.N[i]? = some x) (hv : Vis X.env.scope x) (hb : Binds X.K fd ps [])
    (ha : PA X (e :: es) (tAs G W g)) (hlen : ∀ st ds c1, g st = .ok ds c1 → ds.length + 1 = ps.length) (hdb : (x == ("__debug__" : Str)) = false := by decide) (hcd : (x == ("__classdict__" : Str)) = false := by decide) (he : starEach (e :: es) X.env = (false, eval e X.env) :: starEach es X.env := by rfl) (hpl : (backTo pos (starEach es X.env)).any (·.1) = false := by rfl) :
    PE X (.Call (.Name x p) (e :: es) [] pos) (tE G W (eMakeL i cn fn g)) := by
  refine (pe_makeL M hF hr hN hv hb (passF tk hW) ha hdb hcd he hpl).impV ?_
  rintro σ H Q ⟨ρ, F, st, r, po⟩
  unfold eMakeL at po
  cases q0 : st.env[i]? with
  | none => rw [q0] at po; exact po.elim
  | some oo =>
    cases oo with
    | none => rw [q0] at po; exact po.elim
    | some d =>
      cases d with
      | cls c =>
        rw [q0] at po
        dsimp only at po
        by_cases hc : c = cn
        · subst hc
          rw [if_pos rfl] at po
          obtain ⟨v, e1, e2⟩ := r.env i _ q0
          cases e2
          refine ⟨e1, ρ, F, st, r, ?_⟩
          cases q : g st with
          | no => rw [q] at po; exact po.elim
          | ex e' cs => rw [q] at po; exact po
          | ok ds c1 =>
            rw [q] at po
            have po : Post RV G W ρ F st.env σ Q (makeD c fn ds c1) := po
            intro ρ1 F1 H1 vs x1 r1 rv1 x dx nx ndx ne
            rw [List.append_nil]
            exact make_of (st := ⟨st.env, c1⟩) hW r1 rv1 (hlen _ _ _ q) nx ndx ne (Post.ext x1 po)
        · rw [if_neg hc] at po
          exact po.elim
      | _ => rw [q0] at po; exact po.elim
theorem fnR_of {P : Program} {w : World} {K : PySem.W.Frag} {mg : Str → Option Value} {base : Heap} {CX : CXT} {sp : Sp} (F : FnOk P w K mg base CX k f fd ps sp) (hb : Binds K fd ps []) : FnR P w K mg base CX k f sp := fun A outer s H us vs Q E hr e0 r hs =>
  F.run A outer s H ⟨us, []⟩ us vs Q E hr e0 (by
    have hl := F.len _ _ _ _ hs
    rw [Paired.length r] at hl
    simpa using hb s us (e0.mod.kin.keeps fun b o z => (e0.bs b o z).1) (by simpa using hl)) r hs
theorem spF_flat {K : Kt} {m : Nat} {vs : List V} {H : Hp} {Q : VK} {σ σ' : L2.St} (hW : Flat W) (h : spF K m fn vs H Q (WE W σ)) : spF K m fn vs H Q (fun c d H => W c d σ' H) := by
  obtain ⟨ρ0, F0, ds, cs, r0, rv, hl, po⟩ := h
  refine ⟨ρ0, F0, ds, cs, r0, rv, hl, ?_⟩
  cases e : fn ds cs with
  | ok d cs' => rw [e] at po; exact po
  | ex d cs' => rw [e] at po; exact fun ρ F H cls dx x r xa => hW _ _ _ _ _ (po ρ F H cls dx x r xa)
  | no => rw [e] at po; exact po
/-- C.m(..), m a classmethod -/
def eCMeth (n cn : Nat) (fn : Fn) (g : Ax) : Ex := fun st => (g st).bind fun ds c1 => callV n fn (.cls cn :: ds) c1
theorem de_cmeth {m : Str} {mc : Value} {pc : Addr} {pl : Sem Bool} (n : Nat) (hK : X.K = G.K.K) (hW : Flat W) (tk : Takes X W) (rc : ClX.CRead X.K (G.K.κ cn) mc) (c : ClX.CMet X.K (G.K.κ cn) mc m pc f) (hF : FnOk X.prog X.w X.K X.mg X.base (L2.CX X.prog X.w) k f fd ps (spF G.K ps.length fn)) (hb : Binds X.K fd ps []) (hr : Room k X.A)
    (hg : Gl X x) (hm : X.mg x = some (.ref (G.K.κ cn))) (ha : PA X (e :: es) (tAs G W g)) (hlen : ∀ st ds c1, g st = .ok ds c1 → ds.length + 1 = ps.length) (hdb : (x == ("__debug__" : Str)) = false := by decide) (hst : starEach (e :: es) X.env = (false, eval e X.env) :: starEach es X.env := by rfl) (hpl : (backTo pos (starEach es X.env)).any (·.1) = false := by rfl)
    (ht : eval (.Call (.Attribute (.Name x p) m apos) (e :: es) [] pos) X.env = (do
      let ov ← eval (.Name x p) X.env
      standAt apos.atName
      let (f, first) ← holding [ov] (getMethod ov m pl)
      callWith pos f first (backTo pos (starEach (e :: es) X.env)) (backToKw pos (keywordEach [] X.env))) := by rfl) :
    PE X (.Call (.Attribute (.Name x p) m apos) (e :: es) [] pos) (tE G W (eCMeth n cn fn g)) := by
  have hC : PE X (.Name x p) (tC (.ref (G.K.κ cn))) := pe_glob hg hm rfl hdb
  refine (ClX.pe_cmeth (pl := pl) hC rc c (fnR_of hF hb) hr (passF tk hW) ha hst hpl ht).impV ?_
  rintro σ H Q ⟨ρ, F, st, r, po⟩
  unfold eCMeth at po
  refine ⟨rfl, ρ, F, st, r, ?_⟩
  cases q : g st with
  | no => rw [q] at po; exact po.elim
  | ex e' cs => rw [q] at po; exact po
  | ok ds c1 =>
    rw [q] at po
    have po : Post RV G W ρ F st.env σ Q (callV n fn (.cls cn :: ds) c1) := po
    exact fun ρ1 F1 H1 vs x1 r1 rv1 => spF_flat hW (callV_of (st := ⟨st.env, c1⟩) (m := ps.length) r1 (.cons (.cls cn) rv1) (by simpa using hlen _ _ _ q) (Post.ext x1 po))
end
end VL

/-! VLXA: methods of a class; new objects by keywords, by defaults -/
namespace VL
open PySem L2 PyProof.Rows
/-- the def `name` of the class cn is there -/
structure TxtM (K : Kt) (cn : Nat) (name qual : Str) (st : Stmt) (ps : List Str) : Prop where
  ex : ∃ (f : Addr) (fd : FuncData), PySem.W.findIn K.K (.ref (K.κ cn)) name = some (some (.ref f)) ∧ PySem.W.isFn K.K (.ref f) = true ∧ FunA K.K name qual st .none f fd ∧ Binds K.K fd ps []
section
variable {P : Program} {w : World} {K : Kt} {mg : Str → Option Value} {base : Heap} {x qual name : Str} {st : Stmt} {f : Addr} {fd : FuncData} {ps N : List Str} {k cn : Nat} {fn fn' : Fn} {body : Sx}
theorem mkDefM (t : TxtM K cn name qual st ps) (S : FnScope N ps (defScope st))
    (hbody : ∀ (f : Addr) (G : Gx), G.K = K → ∀ (cdv : Value) (A : Around) (outer : List Env) (s : Shared) (H : Hp) (E : XK), Room k (A.deeper (envOfC qual (defScope st) s.heap.objs.size f cdv)) →
      PSs (cxOf (L2.CX P w) P w K.K mg base N qual (defScope st) f cdv A outer s H E) (defBody st) (tS G (fun cls d _ H' => E cls d H') body)) :
    DefM P w K mg base cn name (k + 1) ps (runF N.length body) := by
  obtain ⟨f, fd, h1, h2, h3, h4⟩ := t.ex
  exact ⟨f, fd, h1, h2, h4, okA h3 S fun G e cdv A outer s H E hr => hbody f G e cdv A outer s H E hr⟩
theorem DefM.trim (d : DefM P w K mg base cn name k ps fn) : DefM P w K mg base cn name k ps (trimF fn) := by
  obtain ⟨f, fd, h1, h2, h3, h4⟩ := d.ex
  exact ⟨f, fd, h1, h2, h3, fnTrim h4⟩
/-- a classmethod -/
structure TxtCM (K : Kt) (mg : Str → Option Value) (x : Str) (cn : Nat) (name qual : Str) (st : Stmt) (ps : List Str) : Prop where
  ex : ∃ (f pc : Addr) (fd : FuncData) (mc : Value), mg x = some (.ref (K.κ cn)) ∧ ClX.CRead K.K (K.κ cn) mc ∧ ClX.CMet K.K (K.κ cn) mc name pc f ∧ FunA K.K name qual st .none f fd ∧ Binds K.K fd ps []
structure DefCM (P : Program) (w : World) (K : Kt) (mg : Str → Option Value) (base : Heap) (x : Str) (cn : Nat) (name : Str) (k : Nat) (ps : List Str) (fn : Fn) : Prop where
  ex : ∃ (f pc : Addr) (fd : FuncData) (mc : Value), mg x = some (.ref (K.κ cn)) ∧ ClX.CRead K.K (K.κ cn) mc ∧ ClX.CMet K.K (K.κ cn) mc name pc f ∧ Binds K.K fd ps [] ∧ FnOk P w K.K mg base (L2.CX P w) k f fd ps (spF K ps.length fn)
theorem mkDefCM (t : TxtCM K mg x cn name qual st ps) (S : FnScope N ps (defScope st))
    (hbody : ∀ (f : Addr) (G : Gx), G.K = K → ∀ (cdv : Value) (A : Around) (outer : List Env) (s : Shared) (H : Hp) (E : XK), Room k (A.deeper (envOfC qual (defScope st) s.heap.objs.size f cdv)) →
      PSs (cxOf (L2.CX P w) P w K.K mg base N qual (defScope st) f cdv A outer s H E) (defBody st) (tS G (fun cls d _ H' => E cls d H') body)) :
    DefCM P w K mg base x cn name (k + 1) ps (runF N.length body) := by
  obtain ⟨f, pc, fd, mc, h1, h2, h3, h4, h5⟩ := t.ex
  exact ⟨f, pc, fd, mc, h1, h2, h3, h5, okA h4 S fun G e cdv A outer s H E hr => hbody f G e cdv A outer s H E hr⟩
theorem DefCM.trim (d : DefCM P w K mg base x cn name k ps fn) : DefCM P w K mg base x cn name k ps (trimF fn) := by
  obtain ⟨f, pc, fd, mc, h1, h2, h3, h4, h5⟩ := d.ex
  exact ⟨f, pc, fd, mc, h1, h2, h3, h4, fnTrim h5⟩
end
section
variable {X : Cx} {G : Gx} {W : WX} {e : Expr} {es : List Expr} {g : Ax} {pos p apos : Pos} {x m : Str} {cn k i : Nat} {fn : Fn} {ps : List Str}
theorem de_cmethD {pl : Sem Bool} (n : Nat) (d : DefCM X.prog X.w G.K X.mg X.base x cn m k ps fn) (hK : X.K = G.K.K) (hW : Flat W) (tk : Takes X W) (hr : Room k X.A)
    (ha : PA X (e :: es) (tAs G W g)) (hlen : ∀ st ds c1, g st = .ok ds c1 → ds.length + 1 = ps.length) (hg : Gl X x := by rfl) (hdb : (x == ("__debug__" : Str)) = false := by decide) (hst : starEach (e :: es) X.env = (false, eval e X.env) :: starEach es X.env := by rfl) (hpl : (backTo pos (starEach es X.env)).any (·.1) = false := by rfl)
    (ht : eval (.Call (.Attribute (.Name x p) m apos) (e :: es) [] pos) X.env = (do
      let ov ← eval (.Name x p) X.env
      standAt apos.atName
      let (f, first) ← holding [ov] (getMethod ov m pl)
      callWith pos f first (backTo pos (starEach (e :: es) X.env)) (backToKw pos (keywordEach [] X.env))) := by rfl) :
    PE X (.Call (.Attribute (.Name x p) m apos) (e :: es) [] pos) (tE G W (eCMeth n cn fn g)) := by
  obtain ⟨f, pc, fd, mc, h1, h2, h3, h4, h5⟩ := d.ex
  rw [← hK] at h2 h3 h4 h5
  exact de_cmeth (pl := pl) n hK hW tk h2 h3 h5 h4 hr hg h1 ha hlen hdb hst hpl ht
theorem de_makeLD (d : DefC X.prog X.w G.K X.mg X.base x cn k ps fn) {y : Str} (hK : X.K = G.K.K) (hW : Flat W) (tk : Takes X W) (hr : Room (k + 1) X.A) (hN : X.N[i]? = some y) (hv : Vis X.env.scope y) (ha : PA X (e :: es) (tAs G W g)) (hlen : ∀ st ds c1, g st = .ok ds c1 → ds.length + 1 = ps.length)
    (hdb : (y == ("__debug__" : Str)) = false := by decide) (hcd : (y == ("__classdict__" : Str)) = false := by decide) (he : starEach (e :: es) X.env = (false, eval e X.env) :: starEach es X.env := by rfl) (hpl : (backTo pos (starEach es X.env)).any (·.1) = false := by rfl) :
    PE X (.Call (.Name y p) (e :: es) [] pos) (tE G W (eMakeL i cn fn g)) := by
  obtain ⟨f, fd, h1, h2, h3, h4⟩ := d.ex
  rw [← hK] at h2 h3 h4
  exact de_makeL hW tk h2 h4 hr hN hv h3 ha hlen hdb hcd he hpl
end
end VL

/-! VLXB: new objects by keywords alone, and with all defaults -/
namespace VL
open PySem L2 PyProof.Rows
section
variable {X : Cx} {G : Gx} {W : WX} {g : Ax} {pos p : Pos} {x : Str} {cn k : Nat} {fn : Fn} {f : Addr} {fd : FuncData} {ps ks : List Str} {kws : List Keyword}
/-- C(k = v, ..): the values by the parameters' places -/
def eMakeK (cn : Nat) (fn : Fn) (ix : List Nat) (g : Ax) : Ex := fun st => (g st).bind fun ds c1 => makeD cn fn (permD ix ds) c1
theorem de_makeK (ix : List Nat) (hW : Flat W) (tk : Takes X W) (M : Mk X.K (G.K.κ cn) f) (hF : FnOk X.prog X.w X.K X.mg X.base (L2.CX X.prog X.w) k f fd ps (spF G.K ps.length fn)) (hr : Room (k + 1) X.A) (hg : Gl X x) (hm : X.mg x = some (.ref (G.K.κ cn)))
    (hb : KBn X.K fd ps 1 ks (fun us ws => us ++ ix.map fun i => ws.getD i .none) (fun vs zs => vs ++ permV ix zs)) (hkw : PK X kws (tAs G W g)) (hlen : ∀ st ds c1, g st = .ok ds c1 → ds.length = ks.length) (hix : ∀ i ∈ ix, i < ks.length) (hixl : ix.length + 1 = ps.length)
    (hall : (backToKw pos (keywordEach kws X.env)).all (·.1.isSome) = true := by rfl) (hks : (backToKw pos (keywordEach kws X.env)).filterMap (·.1) = ks := by rfl) (hdb : (x == ("__debug__" : Str)) = false := by decide)
    (hpl : ((backTo pos (starEach [] X.env)).any (·.1) || (backToKw pos (keywordEach kws X.env)).any (·.1.isNone)) = false := by rfl) :
    PE X (.Call (.Name x p) [] kws pos) (tE G W (eMakeK cn fn ix g)) := by
  refine (pe_makeK0 M hF hr hg hm hb (passF tk hW) hkw hall hks hdb hpl).impV ?_
  rintro σ H Q ⟨ρ, F, st, r, po⟩
  unfold eMakeK at po
  refine ⟨ρ, F, st, r, ?_⟩
  cases q : g st with
  | no => rw [q] at po; exact po.elim
  | ex e' cs => rw [q] at po; exact po
  | ok ds c1 =>
    rw [q] at po
    have po : Post RV G W ρ F st.env σ Q (makeD cn fn (permD ix ds) c1) := po
    intro ρ1 F1 H1 vs x1 r1 rv1
    have hl := hlen _ _ _ q
    have hp := perm_rel rv1 ix fun i hi => by rw [hl]; exact hix i hi
    refine ⟨rfl, by rw [← rv1.length]; exact hl, ?_⟩
    intro y dx nx ndx ne
    exact make_of (st := ⟨st.env, c1⟩) hW r1 hp (by unfold permD; rw [List.length_map]; exact hixl) nx ndx ne (Post.ext x1 po)
/-- C(), every parameter by its default -/
def eMake0 (cn : Nat) (fn : Fn) (ds : List D) : Ex := fun st => makeD cn fn ds st.cs
theorem de_make0 {its : List Value} {dvs : List V} {ds : List D} (hW : Flat W) (tk : Takes X W) (M : Mk X.K (G.K.κ cn) f) (hF : FnOk X.prog X.w X.K X.mg X.base (L2.CX X.prog X.w) k f fd ps (spF G.K ps.length fn)) (hr : Room (k + 1) X.A) (hg : Gl X x) (hm : X.mg x = some (.ref (G.K.κ cn))) (hb : Binds X.K fd ps its) (hd : Vals dvs its)
    (hv : ∀ ρ F, RVs G.K ρ F ds dvs) (hl : ds.length + 1 = ps.length) (hdb : (x == ("__debug__" : Str)) = false := by decide) : PE X (.Call (.Name x p) [] [] pos) (tE G W (eMake0 cn fn ds)) := by
  refine (pe_make0 M hF hr hg hm hb hd (passF tk hW) hdb).impV ?_
  rintro σ H Q ⟨ρ, F, st, r, po⟩
  intro y dx nx ndx ne
  exact make_of hW r (hv ρ F) hl nx ndx ne po
end
end VL

/-! VLXC: an own exception class out of the written part's facts -/
namespace VL
open PySem L2 PyProof.Rows PySem.W
/-- the class at C: own classes, then ValueError's -/
def oexB (K : Frag) (C : Addr) : Bool := match K.lookup C with
  | some ⟨.type "type", _, .cls cd, sl⟩ => (match cd.mro, sl.toList with
    | .ref C1 :: bm, [_, _, _, _, some (.builtin b), _] => C1 == C && b == "ValueError.__new__" && (!cd.hasDel && (cd.hasDict && HandSPX.refsVE bm))
    | _, _ => false)
  | _ => false
theorem oex_of {K : Frag} {C : Addr} (h : oexB K C = true) (sa : findIn K (.ref C) "__setattr__" = some (some (.builtin "object.__setattr__"))) (exC : subIn K (.ref C) (.type "BaseException") = some true) (tyC : typeIn K (.ref C) = some (.type "type")) (kC : keepIn K (.ref C) = true) : OexC K C := by
  refine ⟨?_, sa, exC, tyC, kC⟩
  unfold oexB at h
  split at h
  · rename_i dd cd sl ho
    split at h
    · rename_i C1 bm k0 k1 k2 k3 b k5 e1 e2
      simp only [Bool.and_eq_true, beq_iff_eq, Bool.not_eq_true'] at h
      obtain ⟨⟨rfl, rfl⟩, hdel, hdi, ht⟩ := h
      obtain ⟨nm, bs, mro, ns, qn, hd, sn, sub, ab, col, del⟩ := cd
      dsimp only at e1 hdel hdi
      subst e1 hdel hdi
      have es : sl = #[k0, k1, k2, k3, some (.builtin "ValueError.__new__"), k5] := by
        obtain ⟨l⟩ := sl
        exact congrArg Array.mk e2
      subst es
      exact ⟨nm, qn, ns, bs, bm, sn, sub, ab, col, dd, k0, k1, k2, k3, k5, ho, ht⟩
    · cases h
  · cases h
section
variable {P : Program} {w : World} {K : Kt} {mg : Str → Option Value} {base : Heap} {x : Str} {cn : Nat} {f cc cda : Addr} {st : Stmt} {qual txt fld par : Str} {dV kV doc pm ct oc cl ccl : Value} {an od cld cdd : Option Addr} {osl csl ccs : Array (Option Value)} {vs0 : Array Value} {file : Str} {tf : Tok} {j : Nat} {p0 p1 p2 p3 p4 p5 p6 p7 p8 p9 : Pos} {ar : Arg}
theorem xc_of (lk : K.K.lookup f = some ⟨oc, od, .func (ksFn "__init__" qual (defArgs st) (defBody st) (defScope st) dV kV doc pm an (.ref cda) ct cc), osl⟩) (hcd : codeIn K.K (.ref cda) qual = true) (hcode : K.K.lookup cda = some ⟨ccl, cdd, .fields vs0, ccs⟩) (hvs : vs0[2]? = some (.str file tf)) (hfile : ((P.main.file : Str) == file) = true) (hcell : K.K.lookup cc = some ⟨cl, cld, .cell (some (.ref (K.κ cn))), csl⟩)
    (T : OexC K.K (K.κ cn)) (no : findIn K.K (.ref (K.κ cn)) fld = some none) (sup : ks_superIn K.K (K.κ cn) (K.κ cn) "__init__" = some (some (.builtin "ValueError.__init__"))) (mro : mroIn K.K (K.κ cn) (.ref (K.κ cn)) = some true) (ve : subIn K.K (.ref (K.κ cn)) (.type "ValueError") = some true) (any : nsIn K.K cStatics "thirdparty.any" = some none) (ms : mg "super" = none) (top : (P.main.scope.names.lookup ("super" : Str)).isSome = false)
    (hm : mg x = some (.ref (K.κ cn))) (hi : findIn K.K (.ref (K.κ cn)) "__init__" = some (some (.ref f))) (ht : typeIn K.K (.ref f) = some (.type "function"))
    (hbody : defBody st = [.Expr (.Call (.Attribute (.Call (.Name "super" p0) [] [] p1) "__init__" p2) [.Constant (.str txt) j p3] [] p4) p5, .Assign [.Attribute (.Name "self" p6) fld p7] (.Name par p8) p9])
    (hev : MethEv (.Call (.Name "super" p0) [] [] p1) "__init__" p2 [.Constant (.str txt) j p3] p4) (hp : ((defArgs st).posonlyargs ++ (defArgs st).args).head? = some ar) (har : ar.arg = "self") (hks : (defScope st).names.lookup ("super" : Str) = some .globalImplicit) (hkc : (defScope st).names.lookup ("__class__" : Str) = some .free) (hka : (defScope st).names.lookup ("self" : Str) = some .local) (hkp : (defScope st).names.lookup par = some .local)
    (hk : (defScope st).kind = .function) (hcells : ∀ x ∈ (defScope st).names, x.2 ≠ .cell) (hco : (defScope st).isCoroutine = false) (hgen : (defScope st).isGenerator = false) (hpar : par ≠ "self") (hdb : (par == ("__debug__" : Str)) = false)
    (hbind : ∀ us : List Value, us.length = 2 → bindArgs (ksFn "__init__" qual (defArgs st) (defBody st) (defScope st) dV kV doc pm an (.ref cda) ct cc) ⟨us, []⟩ = pure ([("self" : Str), par].zip us)) : Xc P w K mg base x cn fld := by
  refine ⟨f, _, ["self", par], hm, T, hi, ht, .all hbind, ?_⟩
  have S : SupI P K.K mg (K.κ cn) f (ksFn "__init__" qual (defArgs st) (defBody st) (defScope st) dV kV doc pm an (.ref cda) ct cc) fld := ⟨T, no, sup, mro, ve, any, ms, top, oc, cl, ccl, od, cld, cdd, osl, csl, ccs, vs0, file, tf, cc, cda, lk, rfl, rfl, hcd, hcode, hvs, hfile, hcell⟩
  rw [hbody] at S ⊢
  exact fn_super S hev hp har hks hkc hka hkp hk hcells hco hgen hpar hdb
end
end VL

/-! VLXD: new objects and classmethods where the wish hangs on the slots (a try's body) -/
namespace VL
open PySem L2 PyProof.Rows
section
variable {X : Cx} {G : Gx} {W : WX} {e : Expr} {es : List Expr} {g : Ax} {pos p apos : Pos} {x : Str} {cn k : Nat} {fn : Fn} {f C : Addr} {fd : FuncData} {ps : List Str} {sp : Sp} {CX : CXT}
theorem run_makeS {E : XK} {pins : List (Addr × Obj)} {σ : L2.St} {H : Hp} {s : Shared} {Q : VK} {us : List Value} {vs : List V} (M : Mk X.K C f) (F : FnOk X.prog X.w X.K X.mg X.base CX k f fd ps sp) (hr : Room (k + 1) X.A) (hb : Binds X.K fd ps []) (hx : PassesAt CX X σ E) (I : Inv X pins σ H s) (r : Vals vs us)
    (h : ∀ x dx, H x = none → H dx = none → dx ≠ x → sp (.ref x :: vs) (upd (upd H dx (.own x)) x (.ins C dx [])) (fun v H2 => v = .non ∧ Q (.ref x) H2) E) : wpAny (model X.prog X.w) X.A (call (.ref C) us) (EP X pins σ Q) X.xe s := by
  have q0 := h _ _ (I.hok.fresh (Nat.le_succ s.heap.objs.size)) (I.hok.fresh (Nat.le_refl s.heap.objs.size)) (Nat.ne_of_lt (Nat.lt_succ_self _))
  have J := Inv.made (C := C) I
  have rs : Vals (V.ref (s.heap.objs.size + 1) :: vs) (Value.ref (s.heap.objs.size + 1) :: us) := .cons rfl r
  have ln : (Value.ref (s.heap.objs.size + 1) :: us).length = ps.length := by rw [← F.len _ _ _ _ q0]; exact rs.length.symm
  have bd := hb _ (Value.ref (s.heap.objs.size + 1) :: us) J.kIn (by simpa using ln)
  rw [List.append_nil] at bd
  refine wpAny_call (make_map (f := f) I.kIn M.makes M.init (beq_iff_eq.mp M.fn) (codeAny_mono (F.run _ X.stack _ _ _ _ _ _ E (hr.make C us []) (J.env0.make C us []) bd rs q0) fun res s' hq => ?_))
  match res, hq with
  | .error e, hq => exact hx pins _ _ e s' J hq
  | .ok (.ret u), hq =>
    obtain ⟨v, H', I3, rv, ev, q3⟩ := J.after hq
    subst ev
    exact ⟨rv, V.ref (s.heap.objs.size + 1), H', I3, rfl, q3⟩
theorem de_makeS (tk : Takes X W) (M : Mk X.K (G.K.κ cn) f) (hF : FnOk X.prog X.w X.K X.mg X.base (L2.CX X.prog X.w) k f fd ps (spF G.K ps.length fn)) (hr : Room (k + 1) X.A) (hg : Gl X x) (hm : X.mg x = some (.ref (G.K.κ cn))) (hb : Binds X.K fd ps [])
    (ha : PA X (e :: es) (tAs G W g)) (hlen : ∀ st ds c1, g st = .ok ds c1 → ds.length + 1 = ps.length) (hdb : (x == ("__debug__" : Str)) = false := by decide) (he : starEach (e :: es) X.env = (false, eval e X.env) :: starEach es X.env := by rfl) (hpl : (backTo pos (starEach es X.env)).any (·.1) = false := by rfl) :
    PE X (.Call (.Name x p) (e :: es) [] pos) (tE G W (eMake cn fn g)) := by
  refine ⟨fun pins s σ H Q I ⟨ρ, F, st, r, po⟩ => ?_⟩
  refine wpAny_Call_Name_kw (ld_glob I hg hm ?_ hdb)
  have hta : tAs G W g σ H fun vs H1 => ∀ x dx, H1 x = none → H1 dx = none → dx ≠ x → spF G.K ps.length fn (.ref x :: vs) (upd (upd H1 dx (.own x)) x (.ins (G.K.κ cn) dx [])) (fun v H2 => v = .non ∧ Q (.ref x) H2) (WE W σ) := by
    unfold eMake at po
    refine ⟨ρ, F, st, r, ?_⟩
    cases q : g st with
    | no => rw [q] at po; exact po.elim
    | ex e' cs => rw [q] at po; exact po
    | ok ds c1 =>
      rw [q] at po
      have po : Post RV G W ρ F st.env σ Q (makeD cn fn ds c1) := po
      intro ρ1 F1 H1 vs x1 r1 rv1 x dx nx ndx ne
      have p2 := Post.ext x1 po
      have p3 : Post RV G (fun c d _ H => W c d σ H) ρ1 F1 st.env σ Q (makeD cn fn ds c1) := by
        cases q5 : makeD cn fn ds c1 with
        | ok d cs => rw [q5] at p2; exact p2
        | ex d cs => rw [q5] at p2; exact p2
        | no => rw [q5] at p2; exact p2
      exact make_of (W := fun c d _ H => W c d σ H) (st := ⟨st.env, c1⟩) (fun _ _ _ _ _ h => h) r1 rv1 (hlen _ _ _ q) nx ndx ne p3
  refine PySem.W.callWith_K (h₀ := X.base) I.ok.mod.kin M.kp (thn (ha.run pos pins s σ H _ I hta) fun us s1 ⟨vs, H1, I1, r1, q1⟩ => ⟨I1.kIn, ?_⟩) he hpl
  exact run_makeS M hF hr hb (passAt tk σ) I1 r1 q1
end
end VL

/-! VLXE: a classmethod called where the wish hangs on the slots -/
namespace VL
open PySem L2 PyProof.Rows
section
variable {X : Cx} {G : Gx} {W : WX} {e : Expr} {es : List Expr} {g : Ax} {pos p apos : Pos} {x : Str} {cn k : Nat} {fn : Fn} {f : Addr} {fd : FuncData} {ps : List Str}
theorem de_cmethS {m : Str} {mc : Value} {pc : Addr} {pl : Sem Bool} (n : Nat) (hK : X.K = G.K.K) (tk : Takes X W) (rc : ClX.CRead X.K (G.K.κ cn) mc) (c : ClX.CMet X.K (G.K.κ cn) mc m pc f) (hF : FnOk X.prog X.w X.K X.mg X.base (L2.CX X.prog X.w) k f fd ps (spF G.K ps.length fn)) (hb : Binds X.K fd ps []) (hr : Room k X.A)
    (hg : Gl X x) (hm : X.mg x = some (.ref (G.K.κ cn))) (ha : PA X (e :: es) (tAs G W g)) (hlen : ∀ st ds c1, g st = .ok ds c1 → ds.length + 1 = ps.length) (hdb : (x == ("__debug__" : Str)) = false := by decide) (hst : starEach (e :: es) X.env = (false, eval e X.env) :: starEach es X.env := by rfl) (hpl : (backTo pos (starEach es X.env)).any (·.1) = false := by rfl)
    (ht : eval (.Call (.Attribute (.Name x p) m apos) (e :: es) [] pos) X.env = (do
      let ov ← eval (.Name x p) X.env
      standAt apos.atName
      let (f, first) ← holding [ov] (getMethod ov m pl)
      callWith pos f first (backTo pos (starEach (e :: es) X.env)) (backToKw pos (keywordEach [] X.env))) := by rfl) :
    PE X (.Call (.Attribute (.Name x p) m apos) (e :: es) [] pos) (tE G W (eCMeth n cn fn g)) := by
  refine ⟨fun pins s σ H Q I ⟨ρ, F, st, r, po⟩ => ?_⟩
  have hta : tAs G W g σ H fun vs H1 => spF G.K ps.length fn (.ref (G.K.κ cn) :: vs) H1 Q (WE W σ) := by
    unfold eCMeth at po
    refine ⟨ρ, F, st, r, ?_⟩
    cases q : g st with
    | no => rw [q] at po; exact po.elim
    | ex e' cs => rw [q] at po; exact po
    | ok ds c1 =>
      rw [q] at po
      have po : Post RV G W ρ F st.env σ Q (callV n fn (.cls cn :: ds) c1) := po
      exact fun ρ1 F1 H1 vs x1 r1 rv1 => callV_of (st := ⟨st.env, c1⟩) (m := ps.length) r1 (.cons (.cls cn) rv1) (by simpa using hlen _ _ _ q) (Post.ext x1 po)
  refine PySem.W.methodCall_KW (pl := pl) (ld_glob I hg hm ?_ hdb) ht
  refine ClX.getmethcm_ok I rc c fun s2 I2 => ?_
  refine ClX.callwith_cm I2 (ClX.base_none I (Nat.le_refl _)) c.fi (thn (ha.run pos _ s2 σ H _ I2 hta) fun us s3 ⟨vs, H2, I3, rv, q2⟩ => ⟨⟨ClX.pin_at I3, I3.kIn⟩, ?_⟩) hst hpl
  have rs : Vals (V.ref (G.K.κ cn) :: vs) (Value.ref (G.K.κ cn) :: us) := .cons rfl rv
  have z : wpAny (model X.prog X.w) X.A (call (.ref s.heap.objs.size) us) (EP X ((s.heap.objs.size, PySem.W.methodObj (.ref f) (.ref (G.K.κ cn))) :: pins) σ Q) X.xe s3 := by
    refine wpAny_call (PySem.W.method_call (ClX.pin_at I3) (codeAny_mono (fnR_of hF hb X.A X.stack s3 H2 _ _ Q (WE W σ) hr I3.env0 rs q2) fun res s' hq => ?_))
    match res, hq with
    | .error e, hq => exact passAt tk σ _ _ _ e s' I3 hq
    | .ok (.ret u), hq => exact I3.after hq
  exact thn z fun _ _ y => ClX.unpinE y
end
end VL

/-! VLXF: the rules of a try's body, by the defs' names -/
namespace VL
open PySem L2 PyProof.Rows
section
variable {X : Cx} {G : Gx} {W : WX} {e : Expr} {es : List Expr} {g : Ax} {pos p apos : Pos} {x m : Str} {cn k : Nat} {fn : Fn} {ps : List Str}
theorem de_makeSD (d : DefC X.prog X.w G.K X.mg X.base x cn k ps fn) (hK : X.K = G.K.K) (tk : Takes X W) (hr : Room (k + 1) X.A) (ha : PA X (e :: es) (tAs G W g)) {j : Nat} (hl : ALen j g) (hj : j + 1 = ps.length) (hg : Gl X x := by rfl) (hdb : (x == ("__debug__" : Str)) = false := by decide) (he : starEach (e :: es) X.env = (false, eval e X.env) :: starEach es X.env := by rfl) (hpl : (backTo pos (starEach es X.env)).any (·.1) = false := by rfl) :
    PE X (.Call (.Name x p) (e :: es) [] pos) (tE G W (eMake cn fn g)) := by
  obtain ⟨f, fd, h1, h2, h3, h4⟩ := d.ex
  rw [← hK] at h2 h3 h4
  exact de_makeS tk h2 h4 hr hg h1 h3 ha (fun st ds c1 q => by rw [hl st ds c1 q]; exact hj) hdb he hpl
theorem de_cmethSD {pl : Sem Bool} (n : Nat) (d : DefCM X.prog X.w G.K X.mg X.base x cn m k ps fn) (hK : X.K = G.K.K) (tk : Takes X W) (hr : Room k X.A)
    (ha : PA X (e :: es) (tAs G W g)) {j : Nat} (hl : ALen j g) (hj : j + 1 = ps.length) (hg : Gl X x := by rfl) (hdb : (x == ("__debug__" : Str)) = false := by decide) (hst : starEach (e :: es) X.env = (false, eval e X.env) :: starEach es X.env := by rfl) (hpl : (backTo pos (starEach es X.env)).any (·.1) = false := by rfl)
    (ht : eval (.Call (.Attribute (.Name x p) m apos) (e :: es) [] pos) X.env = (do
      let ov ← eval (.Name x p) X.env
      standAt apos.atName
      let (f, first) ← holding [ov] (getMethod ov m pl)
      callWith pos f first (backTo pos (starEach (e :: es) X.env)) (backToKw pos (keywordEach [] X.env))) := by rfl) :
    PE X (.Call (.Attribute (.Name x p) m apos) (e :: es) [] pos) (tE G W (eCMeth n cn fn g)) := by
  obtain ⟨f, pc, fd, mc, h1, h2, h3, h4, h5⟩ := d.ex
  rw [← hK] at h2 h3 h4 h5
  exact de_cmethS (pl := pl) n hK tk h2 h3 h5 h4 hr hg h1 ha (fun st ds c1 q => by rw [hl st ds c1 q]; exact hj) hdb hst hpl ht
end
end VL

/-! VLXG: tables of isinstance for one own class -/
namespace VL
open PySem L2 PyProof.Rows
def ansB (T : String) (c0 : Nat) : Ty → Option Bool
  | .t n => isSub n T
  | .c C => if C = c0 then some false else none
theorem ansB_ok {K : Kt} {T : String} {c0 : Nat} (h : PySem.W.kitOne K.K (.ref (K.κ c0)) (.type T) = some false) (i : InsC K.K (K.κ c0)) : AnsOk K (.type T) (ansB T c0) := by
  intro t b e
  cases t with
  | t n => exact ⟨kit_ty (isSub_of e), fun C z => by cases z⟩
  | c C =>
    have e : (if C = c0 then some false else none) = some b := e
    by_cases q : C = c0
    · rw [if_pos q] at e
      cases e
      subst q
      exact ⟨h, fun C' z => by cases z; exact i⟩
    · rw [if_neg q] at e
      cases e
def tyNames : List String := ["NoneType", "bool", "int", "str", "tuple", "list"]
def ansO (c0 : Nat) : Ty → Option Bool
  | .t n => if tyNames.contains n then some false else none
  | .c C => if C = c0 then some true else none
theorem ansO_ok {K : Kt} {c0 : Nat} (h : ∀ n ∈ tyNames, PySem.W.kitOne K.K (.type n) (.ref (K.κ c0)) = some false) (i : InsC K.K (K.κ c0)) : AnsOk K (.ref (K.κ c0)) (ansO c0) := by
  intro t b e
  cases t with
  | t n =>
    have e : (if tyNames.contains n = true then some false else none) = some b := e
    by_cases q : tyNames.contains n = true
    · rw [if_pos q] at e
      cases e
      exact ⟨h n (List.contains_iff_mem.mp q), fun C z => by cases z⟩
    · rw [if_neg q] at e
      cases e
  | c C =>
    have e : (if C = c0 then some true else none) = some b := e
    by_cases q : C = c0
    · rw [if_pos q] at e
      cases e
      subst q
      refine ⟨?_, fun C' z => by cases z; exact i⟩
      unfold PySem.W.kitOne
      exact if_pos (beq_self_eq_true _)
    · rw [if_neg q] at e
      cases e
end VL

/-! VLXH: classes whose parameters have defaults, made by keywords or with none -/
namespace VL
open PySem L2 PyProof.Rows
theorem permV_vals {zs : List V} {ws : List Value} (rz : Vals zs ws) : ∀ l : List Nat, Vals (permV l zs) (l.map fun i => ws.getD i .none)
  | [] => .nil
  | i :: l => by
    refine .cons ?_ (permV_vals rz l)
    show RelV (zs.getD i .non) (ws.getD i .none)
    rw [List.getD_eq_getElem?_getD, List.getD_eq_getElem?_getD]
    cases q : zs[i]? with
    | none => rw [rz.none_of q]; rfl
    | some z =>
      obtain ⟨u, e1, e2⟩ := rz.get q
      rw [e1]
      exact e2
theorem units65 {k : Nat} {A : Around} (r : Room k A) : A.units + 65 < cLine := by
  have := r.un
  omega
theorem alen_s {j n : Nat} {g : Ax} (h : j + 1 = n) (hl : ALen j g) : ∀ st ds c1, g st = .ok ds c1 → ds.length + 1 = n := fun st ds c1 q => by rw [hl st ds c1 q, h]
section
variable {P : Program} {w : World} {K : Kt} {mg : Str → Option Value} {base : Heap} {x qual : Str} {st : Stmt} {f : Addr} {fd : FuncData} {ps N : List Str} {k cn : Nat} {fn fn' : Fn} {body : Sx} {Φ : FuncData → Prop}
theorem FunA.kbnD {T : Addr} {o : Obj} {its : List Value} {m : Nat} {ks : List Str} {ix : List Nat} (Fu : FunA K.K x qual st (.ref T) f fd) (lT : K.K.lookup T = some o) (oT : o.data = .seq its.toArray m)
    (h : ∀ (kV doc pm : Value) (an : Option Addr) (cdv ct : Value) (us ws : List Value), us.length = 1 → ws.length = ks.length → ∃ k, bindArgs (PySem.W.fnOf x qual (defArgs st) (defBody st) (defScope st) (.ref T) kV doc pm an cdv ct) ⟨us, ks.zip ws⟩ = seqItems? (.ref T) >>= k ∧ k (some its.toArray) = pure (ps.zip (us ++ ix.map fun i => ws.getD i .none))) :
    KBn K.K fd ps 1 ks (fun us ws => us ++ ix.map fun i => ws.getD i .none) (fun vs zs => vs ++ permV ix zs) := by
  obtain ⟨oc, od, kV, doc, pm, an, cdv, ct, osl, rfl, lk, hcd⟩ := Fu.ex
  refine ⟨fun s us ws KX hu hw => ?_, fun {vs us zs ws} ru rz => ru.append (permV_vals rz ix)⟩
  obtain ⟨k, e1, e2⟩ := h kV doc pm an cdv ct us ws hu hw
  refine BindsTo.of_looks fun M => ?_
  rw [e1]
  exact looks_items KX lT oT (PySem.W.Looks.of_pure e2)
theorem FunA.bindsN {T : Addr} {o : Obj} {its : List Value} {m : Nat} (Fu : FunA K.K x qual st (.ref T) f fd) (lT : K.K.lookup T = some o) (oT : o.data = .seq its.toArray m) (hn : its.length + 1 = ps.length)
    (h : ∀ (kV doc pm : Value) (an : Option Addr) (cdv ct : Value) (u : Value), ∃ k, bindArgs (PySem.W.fnOf x qual (defArgs st) (defBody st) (defScope st) (.ref T) kV doc pm an cdv ct) ⟨[u], []⟩ = seqItems? (.ref T) >>= k ∧ k (some its.toArray) = pure (ps.zip (u :: its))) : Binds K.K fd ps its := by
  obtain ⟨oc, od, kV, doc, pm, an, cdv, ct, osl, rfl, lk, hcd⟩ := Fu.ex
  intro s us KX hl
  rw [List.length_append] at hl
  have hu : us.length = 1 := by omega
  match us, hu with
  | [u], _ =>
    obtain ⟨k, e1, e2⟩ := h kV doc pm an cdv ct u
    refine BindsTo.of_looks fun M => ?_
    rw [e1]
    exact looks_items KX lT oT (PySem.W.Looks.of_pure e2)
/-- a class of the text, with more facts of its __init__ -/
structure TxtCX (K : Kt) (mg : Str → Option Value) (x : Str) (cn : Nat) (st : Stmt) (ps : List Str) (Φ : FuncData → Prop) : Prop where
  ex : ∃ (f : Addr) (fd : FuncData), mg x = some (.ref (K.κ cn)) ∧ Mk K.K (K.κ cn) f ∧ (∃ dV, FunA K.K "__init__" (x ++ ".__init__") st dV f fd) ∧ Binds K.K fd ps [] ∧ Φ fd
structure DefCX (P : Program) (w : World) (K : Kt) (mg : Str → Option Value) (base : Heap) (x : Str) (cn k : Nat) (ps : List Str) (fn : Fn) (Φ : FuncData → Prop) : Prop where
  ex : ∃ (f : Addr) (fd : FuncData), mg x = some (.ref (K.κ cn)) ∧ Mk K.K (K.κ cn) f ∧ Binds K.K fd ps [] ∧ FnOk P w K.K mg base (L2.CX P w) k f fd ps (spF K ps.length fn) ∧ Φ fd
theorem DefCX.toC (d : DefCX P w K mg base x cn k ps fn Φ) : DefC P w K mg base x cn k ps fn := by
  obtain ⟨f, fd, h1, h2, h3, h4, _⟩ := d.ex
  exact ⟨f, fd, h1, h2, h3, h4⟩
theorem mkDefCX (t : TxtCX K mg x cn st ps Φ) (S : FnScope N ps (defScope st))
    (hbody : ∀ (f : Addr) (G : Gx), G.K = K → ∀ (cdv : Value) (A : Around) (outer : List Env) (s : Shared) (H : Hp) (E : XK), Room k (A.deeper (envOfC (x ++ ".__init__") (defScope st) s.heap.objs.size f cdv)) →
      PSs (cxOf (L2.CX P w) P w K.K mg base N (x ++ ".__init__") (defScope st) f cdv A outer s H E) (defBody st) (tS G (fun cls d _ H' => E cls d H') body)) :
    DefCX P w K mg base x cn (k + 1) ps (runF N.length body) Φ := by
  obtain ⟨f, fd, h1, h2, ⟨dV, h3⟩, h4, h5⟩ := t.ex
  exact ⟨f, fd, h1, h2, h4, okA h3 S fun G e cdv A outer s H E hr => hbody f G e cdv A outer s H E hr, h5⟩
/-- keywords ks, by the places ix -/
def PhiK (K : Kt) (ps ks : List Str) (ix : List Nat) (fd : FuncData) : Prop := KBn K.K fd ps 1 ks (fun us ws => us ++ ix.map fun i => ws.getD i .none) (fun vs zs => vs ++ permV ix zs)
/-- the defaults ds -/
def Phi0 (K : Kt) (ps : List Str) (ds : List D) (fd : FuncData) : Prop := ∃ (its : List Value) (dvs : List V), Binds K.K fd ps its ∧ Vals dvs its ∧ ∀ ρ F, RVs K ρ F ds dvs
end
section
variable {X : Cx} {G : Gx} {W : WX} {g : Ax} {pos p : Pos} {x : Str} {cn k : Nat} {fn : Fn} {ps ks : List Str} {kws : List Keyword} {Φ : FuncData → Prop} {ds : List D}
theorem de_makeKD (ix : List Nat) (d : DefCX X.prog X.w G.K X.mg X.base x cn k ps fn Φ) (hΦ : ∀ fd, Φ fd → PhiK G.K ps ks ix fd) (hK : X.K = G.K.K) (hW : Flat W) (tk : Takes X W) (hr : Room (k + 1) X.A) (hkw : PK X kws (tAs G W g)) (hl : ALen ks.length g) (hix : ∀ i ∈ ix, i < ks.length) (hixl : ix.length + 1 = ps.length) (hg : Gl X x := by rfl)
    (hall : (backToKw pos (keywordEach kws X.env)).all (·.1.isSome) = true := by rfl) (hks : (backToKw pos (keywordEach kws X.env)).filterMap (·.1) = ks := by rfl) (hdb : (x == ("__debug__" : Str)) = false := by decide)
    (hpl : ((backTo pos (starEach [] X.env)).any (·.1) || (backToKw pos (keywordEach kws X.env)).any (·.1.isNone)) = false := by rfl) :
    PE X (.Call (.Name x p) [] kws pos) (tE G W (eMakeK cn fn ix g)) := by
  obtain ⟨f, fd, h1, h2, h3, h4, h5⟩ := d.ex
  have kb := hΦ fd h5
  unfold PhiK at kb
  rw [← hK] at h2 h4 kb
  exact de_makeK ix hW tk h2 h4 hr hg h1 kb hkw hl hix hixl hall hks hdb hpl
theorem de_make0D (d : DefCX X.prog X.w G.K X.mg X.base x cn k ps fn Φ) (hΦ : ∀ fd, Φ fd → Phi0 G.K ps ds fd) (hK : X.K = G.K.K) (hW : Flat W) (tk : Takes X W) (hr : Room (k + 1) X.A) (hl : ds.length + 1 = ps.length) (hg : Gl X x := by rfl) (hdb : (x == ("__debug__" : Str)) = false := by decide) :
    PE X (.Call (.Name x p) [] [] pos) (tE G W (eMake0 cn fn ds)) := by
  obtain ⟨f, fd, h1, h2, h3, h4, h5⟩ := d.ex
  obtain ⟨its, dvs, h6, h7, h8⟩ := hΦ fd h5
  rw [← hK] at h2 h4 h6
  exact de_make0 hW tk h2 h4 hr hg h1 h6 h7 h8 hl hdb
end
end VL

/-! VLS: plain reckoning, step by step -/
namespace VL
open PySem L2
section
variable {f fa fb fc : Ex} {g : F2} {st st1 : S} {x y d z : D} {c1 c2 c3 cs : List Cell} {o : Out D} {so r : SOut} {t t2 : Tx} {k : Bool} {sf sg : Sx} {ga : Ax} {xs : List D}
theorem ev_eOp (h1 : fa st = .ok x c1) (h2 : fb ⟨st.env, c1⟩ = .ok y c2) (h3 : g c2 x y = o) : eOp g fa fb st = o := by
  unfold eOp; rw [h1]; show (fb ⟨st.env, c1⟩).bind _ = _; rw [h2]; exact h3
theorem ev_eUn {g : F1} (h1 : fa st = .ok x c1) (h3 : g c1 x = o) : eUn g fa st = o := by
  unfold eUn; rw [h1]; exact h3
theorem ev_tCmp (h : eOp g fa fb st = .ok (.bl k) c1) : tCmp' g fa fb st = .ok k c1 := by
  unfold tCmp'; rw [h]; rfl
theorem ev_tTru (h : fa st = .ok x c1) (h2 : truD c1 x = some k) : tTru fa st = .ok k c1 := by
  unfold tTru; rw [h]
  show (match truD c1 x with
    | some k => Out.ok k c1
    | none => .no) = _
  rw [h2]
theorem ev_eNot (h : fa st = .ok x c1) (h2 : truD c1 x = some k) : eNot fa st = .ok (.bl (!k)) c1 := by
  unfold eNot; rw [h]
  show (match truD c1 x with
    | some k => Out.ok (D.bl (!k)) c1
    | none => .no) = _
  rw [h2]
theorem ev_eAndT (h : fa st = .ok x c1) (h2 : truD c1 x = some true) (h3 : fb ⟨st.env, c1⟩ = o) : eAnd fa fb st = o := by
  unfold eAnd; rw [h]
  show (match truD c1 x with
    | some k => if k then fb ⟨st.env, c1⟩ else Out.ok x c1
    | none => .no) = _
  rw [h2]; exact h3
theorem ev_eAndF (h : fa st = .ok x c1) (h2 : truD c1 x = some false) : eAnd fa fb st = .ok x c1 := by
  unfold eAnd; rw [h]
  show (match truD c1 x with
    | some k => if k then fb ⟨st.env, c1⟩ else Out.ok x c1
    | none => .no) = _
  rw [h2]; rfl
theorem ev_eOrF (h : fa st = .ok x c1) (h2 : truD c1 x = some false) (h3 : fb ⟨st.env, c1⟩ = o) : eOr fa fb st = o := by
  unfold eOr; rw [h]
  show (match truD c1 x with
    | some k => if k then Out.ok x c1 else fb ⟨st.env, c1⟩
    | none => .no) = _
  rw [h2]; exact h3
theorem ev_eOrT (h : fa st = .ok x c1) (h2 : truD c1 x = some true) : eOr fa fb st = .ok x c1 := by
  unfold eOr; rw [h]
  show (match truD c1 x with
    | some k => if k then Out.ok x c1 else fb ⟨st.env, c1⟩
    | none => .no) = _
  rw [h2]; rfl
theorem ev_tNot (h : t st = .ok k c1) : tNot' t st = .ok (!k) c1 := by
  unfold tNot'; rw [h]; rfl
theorem ev_tAndT {o : Out Bool} (h : t st = .ok true c1) (h2 : t2 ⟨st.env, c1⟩ = o) : tAnd' t t2 st = o := by
  unfold tAnd'; rw [h]; exact h2
theorem ev_tAndF (h : t st = .ok false c1) : tAnd' t t2 st = .ok false c1 := by
  unfold tAnd'; rw [h]; rfl
theorem ev_tOrF {o : Out Bool} (h : t st = .ok false c1) (h2 : t2 ⟨st.env, c1⟩ = o) : tOr' t t2 st = o := by
  unfold tOr'; rw [h]; exact h2
theorem ev_tOrT (h : t st = .ok true c1) : tOr' t t2 st = .ok true c1 := by
  unfold tOr'; rw [h]; rfl
theorem ev_eIfT (h : t st = .ok true c1) (h2 : fa ⟨st.env, c1⟩ = o) : eIf t fa fb st = o := by
  unfold eIf; rw [h]; exact h2
theorem ev_eIfF (h : t st = .ok false c1) (h2 : fb ⟨st.env, c1⟩ = o) : eIf t fa fb st = o := by
  unfold eIf; rw [h]; exact h2
theorem ev_sIfT (h : t st = .ok true c1) (h2 : sf ⟨st.env, c1⟩ = so) : sIf t sf sg st = so := by
  unfold sIf; rw [h]; exact h2
theorem ev_sIfF (h : t st = .ok false c1) (h2 : sg ⟨st.env, c1⟩ = so) : sIf t sf sg st = so := by
  unfold sIf; rw [h]; exact h2
theorem ev_aCons (h : fa st = .ok x c1) (h2 : ga ⟨st.env, c1⟩ = .ok xs c2) : aCons fa ga st = .ok (x :: xs) c2 := by
  unfold aCons; rw [h]; show (ga ⟨st.env, c1⟩).bind _ = _; rw [h2]; rfl
theorem ev_eTup (h : ga st = .ok xs c1) (h2 : decide (xs.length ≤ 16777216) = true) : eTup ga st = .ok (.tup xs) c1 := by
  unfold eTup; rw [h]; exact if_pos (of_decide_eq_true h2)
theorem ev_eLst (h : ga st = .ok xs c1) (h2 : decide (xs.length ≤ 16777216) = true) : eLst ga st = .ok (.lst xs) c1 := by
  unfold eLst; rw [h]; exact if_pos (of_decide_eq_true h2)
theorem ev_eLoc (h : ga st = .ok xs c1) (h2 : decide (xs.length ≤ 16777216) = true) (h3 : newCell xs c1 = o) : eLoc ga st = o := by
  unfold eLoc; rw [h]; exact (if_pos (of_decide_eq_true h2)).trans h3
theorem ev_eB {h : FB} (h1 : ga st = .ok xs c1) (h2 : h c1 xs = o) : eB h ga st = o := by
  unfold eB; rw [h1]; exact h2
theorem ev_eCall {n : Nat} {fn : Fn} (h1 : ga st = .ok xs c1) (h2 : callV n fn xs c1 = o) : eCall n fn ga st = o := by
  unfold eCall; rw [h1]; exact h2
theorem ev_eCallAll {fn : Fn} (h1 : ga st = .ok xs c1) (h2 : fn xs c1 = o) : eCallAll fn ga st = o := by
  unfold eCallAll; rw [h1]; exact h2
theorem ev_eCMeth {n cn : Nat} {fn : Fn} (h1 : ga st = .ok xs c1) (h2 : callV n fn (.cls cn :: xs) c1 = o) : eCMeth n cn fn ga st = o := by
  unfold eCMeth; rw [h1]; exact h2
theorem ev_eMake {cn : Nat} {fn : Fn} (h1 : ga st = .ok xs c1) (h2 : makeD cn fn xs c1 = o) : eMake cn fn ga st = o := by
  unfold eMake; rw [h1]; exact h2
theorem ev_eMakeK {cn : Nat} {fn : Fn} {ix : List Nat} {ys : List D} (h1 : ga st = .ok xs c1) (h3 : permD ix xs = ys) (h2 : makeD cn fn ys c1 = o) : eMakeK cn fn ix ga st = o := by
  subst h3
  unfold eMakeK; rw [h1]; exact h2
theorem ev_eMake0 {cn : Nat} {fn : Fn} (h2 : makeD cn fn xs st.cs = o) : eMake0 cn fn xs st = o := h2
theorem ev_eMS {g : Str → List Cell → D → Out D} {w : Str} (h1 : fa st = .ok (.str w) c1) (h2 : fb ⟨st.env, c1⟩ = .ok y c2) (h3 : g w c2 y = o) : eMS g fa fb st = o := by
  unfold eMS; rw [h1]; show (fb ⟨st.env, c1⟩).bind _ = _; rw [h2]; exact h3
theorem ev_sSeq (h : sf st = .nx st1) (h2 : sg st1 = so) : sSeq sf sg st = so := by
  unfold sSeq; rw [h]; exact h2
theorem ev_sSeqR (h : sf st = .rt d st1) : sSeq sf sg st = .rt d st1 := by
  unfold sSeq; rw [h]
theorem ev_sSeqX {e : Exn} (h : sf st = .ex e st1) : sSeq sf sg st = .ex e st1 := by
  unfold sSeq; rw [h]
theorem ev_sAsg {gt : Gt} (h : fa st = .ok d c1) (h2 : asg gt d ⟨st.env, c1⟩ = so) : sAsg fa gt st = so := by
  unfold sAsg; rw [h]; exact h2
theorem ev_sPar {is : List Nat} (h : ga st = .ok xs c1) (h2 : sPar is (fun _ => .ok xs c1) st = so) : sPar is ga st = so := by
  rw [← h2]
  unfold sPar; rw [h]
theorem ev_sRet (h : fa st = .ok d c1) : sRet fa st = .rt d ⟨st.env, c1⟩ := by
  unfold sRet; rw [h]; rfl
theorem ev_sExpr (h : fa st = .ok d c1) : sExpr fa st = .nx ⟨st.env, c1⟩ := by
  unfold sExpr; rw [h]; rfl
theorem ev_iT {w : List D × (List Cell → Bool)} (h : fa st = .ok d c1) (h2 : iT (fun _ => .ok d c1) st = .ok w c2) : iT fa st = .ok w c2 := by
  rw [← h2]; unfold iT; rw [h]
theorem ev_iL {w : List D × (List Cell → Bool)} (h : fa st = .ok d c1) (h2 : iL (fun _ => .ok d c1) st = .ok w c2) : iL fa st = .ok w c2 := by
  rw [← h2]; unfold iL; rw [h]
theorem ev_sFor {src : Ix} {gt : Gt} {w : List D × (List Cell → Bool)} (h : src st = .ok w c1) (h2 : forL gt sf w.2 w.1 ⟨st.env, c1⟩ = so) : sFor src gt sf st = so := by
  unfold sFor; rw [h]; exact h2
theorem ev_forNil {gt : Gt} {kp : List Cell → Bool} (h : kp st.cs = true) : forL gt sf kp [] st = .nx st := by
  unfold forL; rw [if_pos h]
theorem ev_forNx {gt : Gt} {kp : List Cell → Bool} {st2 : S} (h : kp st.cs = true) (h1 : gt d st = some st1) (h2 : sf st1 = .nx st2) (h3 : forL gt sf kp xs st2 = so) : forL gt sf kp (d :: xs) st = so := by
  rw [forL, if_pos h, h1]; show (match sf st1 with | .nx st2 => _ | .ct st2 => _ | .bk st2 => _ | o => o) = _; rw [h2]; exact h3
theorem ev_forCt {gt : Gt} {kp : List Cell → Bool} {st2 : S} (h : kp st.cs = true) (h1 : gt d st = some st1) (h2 : sf st1 = .ct st2) (h3 : forL gt sf kp xs st2 = so) : forL gt sf kp (d :: xs) st = so := by
  rw [forL, if_pos h, h1]; show (match sf st1 with | .nx st2 => _ | .ct st2 => _ | .bk st2 => _ | o => o) = _; rw [h2]; exact h3
theorem ev_forRt {gt : Gt} {kp : List Cell → Bool} {st2 : S} {v : D} (h : kp st.cs = true) (h1 : gt d st = some st1) (h2 : sf st1 = .rt v st2) : forL gt sf kp (d :: xs) st = .rt v st2 := by
  rw [forL, if_pos h, h1]; show (match sf st1 with | .nx st2 => _ | .ct st2 => _ | .bk st2 => _ | o => o) = _; rw [h2]
theorem ev_runRt {n : Nat} {ds : List D} {env : List (Option D)} (h0 : startD n ds = env) (h : sf ⟨env, cs⟩ = .rt d st1) : runF n sf ds cs = .ok d st1.cs := by
  unfold runF; rw [h0, h]
theorem ev_runNx {n : Nat} {ds : List D} {env : List (Option D)} (h0 : startD n ds = env) (h : sf ⟨env, cs⟩ = .nx st1) : runF n sf ds cs = .ok .non st1.cs := by
  unfold runF; rw [h0, h]
theorem ev_runEx {n : Nat} {ds : List D} {env : List (Option D)} {e : Exn} (h0 : startD n ds = env) (h : sf ⟨env, cs⟩ = .ex e st1) : runF n sf ds cs = .ex e st1.cs := by
  unfold runF; rw [h0, h]
theorem ev_trim {fn : Fn} {ds : List D} {r o : Out D} (h : fn ds cs = r) (h2 : trimF (fun _ _ => r) ds cs = o) : trimF fn ds cs = o := by
  rw [← h2]; unfold trimF; rw [h]
theorem ev_call {fn : Fn} {n : Nat} {ds es : List D} {c0 : List Cell} {r o : Out D} (h0 : ds.map (lendD n cs) = es) (h1 : cs.take n = c0) (h : fn es c0 = r) (h2 : callV n (fun _ _ => r) ds cs = o) : callV n fn ds cs = o := by
  rw [← h2]; unfold callV; rw [h0, h1, h]
theorem ev_make {fn : Fn} {cn : Nat} {ds es : List D} {c0 : List Cell} {r o : Out D} (h0 : D.loc cs.length :: ds = es) (h1 : cs ++ [.ins cn [] []] = c0) (h : fn es c0 = r) (h2 : makeD cn (fun _ _ => r) ds cs = o) : makeD cn fn ds cs = o := by
  rw [← h2]; unfold makeD; rw [h0, h1, h]
theorem ev_try {ct : Nat → Option Bool} {i j : Nat} {fx : Exn → Ex} (h : sf st = r) (h2 : sTry1 ct i j (fun _ => r) fx st = so) : sTry1 ct i j sf fx st = so := by
  rw [← h2]; unfold sTry1; rw [h]
theorem ev_eSl {own : Bool} {l h : Ox} {lo hi : Option Int} (h1 : fa st = .ok x c1) (h2 : l ⟨st.env, c1⟩ = .ok lo c2) (h3 : h ⟨st.env, c2⟩ = .ok hi c3) (h4 : gSl own c3 x lo hi = o) : eSl own fa l h st = o := by
  unfold eSl; rw [h1]; show (l ⟨st.env, c1⟩).bind _ = _; rw [h2]; show (h ⟨st.env, c2⟩).bind _ = _; rw [h3]; exact h4
theorem ev_oSome (h1 : fa st = .ok d c1) {o : Out (Option Int)} (h2 : oSome (fun _ => .ok d c1) st = o) : oSome fa st = o := by
  rw [← h2]; unfold oSome; rw [h1]
theorem ev_setFld {cn : Nat} {n : Str} (h1 : fa st = .ok x c1) (h2 : fb ⟨st.env, c1⟩ = .ok y c2) (h3 : setFld cn n y x ⟨st.env, c2⟩ = so) : sSetFld cn n fa fb st = so := by
  unfold sSetFld; rw [h1]; show thenS (fb ⟨st.env, c1⟩) _ _ = _; rw [h2]; exact h3
theorem ev_setIx (h1 : fa st = .ok x c1) (h2 : fb ⟨st.env, c1⟩ = .ok y c2) (h3 : fc ⟨st.env, c2⟩ = .ok z c3) (h4 : setIx y z x ⟨st.env, c3⟩ = so) : sSetIx fa fb fc st = so := by
  simp only [sSetIx, thenS, h1, h2, h3]; exact h4
theorem outD_low {n : Nat} {cs : List Cell} {d : D} (h : below n d = true) (hl : ∀ m, d ≠ .loc m) : outD n cs d = some d := by
  cases d with
  | loc m => exact absurd rfl (hl m)
  | _ =>
    unfold outD
    exact if_pos h
theorem trimF_of {fn : Fn} {ds : List D} {cs cs' : List Cell} {d d' : D} (h : fn ds cs = .ok d cs') (h1 : (cs'.take cs.length).all (belowC cs.length) = true) (h2 : outD cs.length cs' d = some d') : trimF fn ds cs = .ok d' (cs'.take cs.length) := by
  unfold trimF
  rw [h]
  show (if _ then (match outD cs.length cs' d with
    | some d' => Out.ok d' (cs'.take cs.length)
    | none => .no) else .no) = _
  rw [if_pos h1, h2]
theorem atI_nat {α : Type} {xs : List α} {k : Nat} {x : α} (h : xs[k]? = some x) : atI xs (k : Int) = some x := by
  have hk : k < xs.length := by
    rw [List.getElem?_eq_some_iff] at h
    exact h.1
  have e : ixN xs.length (k : Int) = some k := by
    unfold ixN
    simp [hk]
  simp [atI, e, h]
theorem ix_lst {ds : List D} {k : Nat} {cs : List Cell} (h : atI ds (k : Int) = some d) : gIx cs (.lst ds) (.int k) = .ok d cs := by
  simp [gIx, seqOf, lstOf, h]
theorem callV0_of {fn : Fn} {ds : List D} {d : D} {cs : List Cell} (hd : ds.map (lendD 0 cs) = ds) (hb : belows 0 ds = true) (h : fn ds [] = .ok d []) : callV 0 fn ds cs = .ok d cs := by
  unfold callV
  rw [hd, if_pos ⟨Nat.zero_le _, hb, by simp⟩, List.take_zero, h]
  show (if _ then Out.ok d ([] ++ cs.drop 0) else Out.no) = _
  rw [if_pos ⟨rfl, .inl hb⟩]
  simp
theorem map_at {α β : Type} {f g : α → β} {l : List α} (h : l.map f = l.map g) {a : α} (ha : a ∈ l) : f a = g a := List.map_inj_left.mp h a ha
end
end VL

namespace K66
open PySem L2 PyProof.Rows VL
def topS (i : Nat) : Stmt := PySem.Challenge.pw_plainroads_k66_turns_made_and_read.main.body.getD i (.Pass ⟨0, 0, 0, 0⟩)
abbrev s_is_integer : Stmt := topS 6
abbrev n_is_integer : List Str := ["value"]
theorem sc_is_integer : FnScope n_is_integer ["value"] (defScope s_is_integer) := ⟨rfl, rfl, rfl, by decide +kernel, rfl, by decide +kernel, by decide +kernel⟩
abbrev s_is_number : Stmt := topS 7
abbrev n_is_number : List Str := ["value"]
theorem sc_is_number : FnScope n_is_number ["value"] (defScope s_is_number) := ⟨rfl, rfl, rfl, by decide +kernel, rfl, by decide +kernel, by decide +kernel⟩
abbrev s_init : Stmt := inClass (topS 9) 0
abbrev n_init : List Str := ["self", "ranked", "lent", "fair"]
theorem sc_init : FnScope n_init ["self", "ranked", "lent", "fair"] (defScope s_init) := ⟨rfl, rfl, rfl, by decide +kernel, rfl, by decide +kernel, by decide +kernel⟩
abbrev s_fair_in : Stmt := topS 10
abbrev n_fair_in : List Str := ["words", "sign"]
theorem sc_fair_in : FnScope n_fair_in ["words"] (defScope s_fair_in) := ⟨rfl, rfl, rfl, by decide +kernel, rfl, by decide +kernel, by decide +kernel⟩
abbrev s_read : Stmt := inClass (topS 9) 1
abbrev n_read : List Str := ["cls", "text", "words", "fair"]
theorem sc_read : FnScope n_read ["cls", "text"] (defScope s_read) := ⟨rfl, rfl, rfl, by decide +kernel, rfl, by decide +kernel, by decide +kernel⟩
abbrev s_str : Stmt := inClass (topS 9) 4
abbrev n_str : List Str := ["self", "words"]
theorem sc_str : FnScope n_str ["self"] (defScope s_str) := ⟨rfl, rfl, rfl, by decide +kernel, rfl, by decide +kernel, by decide +kernel⟩
abbrev s_eq : Stmt := inClass (topS 9) 3
abbrev n_eq : List Str := ["self", "other"]
theorem sc_eq : FnScope n_eq ["self", "other"] (defScope s_eq) := ⟨rfl, rfl, rfl, by decide +kernel, rfl, by decide +kernel, by decide +kernel⟩
abbrev s_box : Stmt := topS 12
abbrev n_box : List Str := ["_law_script", "_law_k", "_law_cell", "_law_great"]
theorem sc_box : FnScope n_box ["_law_script", "_law_k"] (defScope s_box) := ⟨rfl, rfl, rfl, by decide +kernel, rfl, by decide +kernel, by decide +kernel⟩
abbrev s_take : Stmt := topS 13
abbrev n_take : List Str := ["_law_box_here", "_law_many", "_law_digit", "_law_raw"]
theorem sc_take : FnScope n_take ["_law_box_here", "_law_many"] (defScope s_take) := ⟨rfl, rfl, rfl, by decide +kernel, rfl, by decide +kernel, by decide +kernel⟩
abbrev s_pick : Stmt := topS 14
abbrev n_pick : List Str := ["_law_box_here", "_law_some"]
theorem sc_pick : FnScope n_pick ["_law_box_here", "_law_some"] (defScope s_pick) := ⟨rfl, rfl, rfl, by decide +kernel, rfl, by decide +kernel, by decide +kernel⟩
abbrev s_heard : Stmt := topS 15
abbrev n_heard : List Str := ["_law_ranked", "_law_lent", "_law_fair", "_law_found", "e"]
theorem sc_heard : FnScope n_heard ["_law_ranked", "_law_lent", "_law_fair"] (defScope s_heard) := ⟨rfl, rfl, rfl, by decide +kernel, rfl, by decide +kernel, by decide +kernel⟩
abbrev s_lread : Stmt := topS 16
abbrev n_lread : List Str := ["_law_thing", "_law_found", "e"]
theorem sc_lread : FnScope n_lread ["_law_thing"] (defScope s_lread) := ⟨rfl, rfl, rfl, by decide +kernel, rfl, by decide +kernel, by decide +kernel⟩
abbrev s_told : Stmt := topS 17
abbrev n_told : List Str := ["_law_ranked", "_law_lent", "_law_fair", "_law_some"]
theorem sc_told : FnScope n_told ["_law_ranked", "_law_lent", "_law_fair"] (defScope s_told) := ⟨rfl, rfl, rfl, by decide +kernel, rfl, by decide +kernel, by decide +kernel⟩
abbrev s_law : Stmt := topS 18
abbrev n_law : List Str := ["_law_script", "_law_box_here", "_law_ranked", "_law_lent", "_law_fair", "_law_made", "_law_line", "_law_odd", "_law_thing", "_law_bad"]
theorem sc_law : FnScope n_law ["_law_script"] (defScope s_law) := ⟨rfl, rfl, rfl, by decide +kernel, rfl, by decide +kernel, by decide +kernel⟩
def PhiT (K : Kt) (fd : FuncData) : Prop := PhiK K ["self", "ranked", "lent", "fair"] ["fair", "lent", "ranked"] [2, 1, 0] fd ∧ Phi0 K ["self", "ranked", "lent", "fair"] [.bl false, .bl false, .non] fd
def ct_InvalidTurns : Nat → Option Bool := fun C => if C = 1 then some true else none
def ct_InvalidText : Nat → Option Bool := fun C => if C = 2 then some true else none
theorem only_InvalidTurns : ∀ C, ct_InvalidTurns C = some true → C = 1 := by
  intro C h
  unfold ct_InvalidTurns at h
  split at h
  · assumption
  · cases h
theorem only_InvalidText : ∀ C, ct_InvalidText C = some true → C = 2 := by
  intro C h
  unfold ct_InvalidText at h
  split at h
  · assumption
  · cases h
structure Tx (K : Kt) (mg : Str → Option Value) : Prop where
  b_len : mg "len" = none
  b_int : mg "int" = none
  b_abs : mg "abs" = none
  b_isinstance : mg "isinstance" = none
  b_bool : mg "bool" = none
  b_str : mg "str" = none
  b_all : mg "all" = none
  b_repr : mg "repr" = none
  b_super : mg "super" = none
  f_Turns_ranked : FldOk K 0 "ranked"
  f_Turns_lent : FldOk K 0 "lent"
  f_Turns_fair : FldOk K 0 "fair"
  c_DIGITS : ∃ u : Value, mg "DIGITS" = some u ∧ RelV (.str "0123456789") u
  t_is_integer : Txt1 K mg "is_integer" s_is_integer ["value"]
  t_is_number : Txt1 K mg "is_number" s_is_number ["value"]
  t_init : TxtCX K mg "Turns" 0 s_init ["self", "ranked", "lent", "fair"] (PhiT K)
  t_fair_in : Txt1 K mg "fair_in" s_fair_in ["words"]
  t_read : TxtCM K mg "Turns" 0 "read" "Turns.read" s_read ["cls", "text"]
  t_str : TxtM K 0 "__str__" "Turns.__str__" s_str ["self"]
  t_eq : TxtM K 0 "__eq__" "Turns.__eq__" s_eq ["self", "other"]
  t_box : Txt1 K mg "_law_box" s_box ["_law_script", "_law_k"]
  t_take : Txt1 K mg "_law_take" s_take ["_law_box_here", "_law_many"]
  t_pick : Txt1 K mg "_law_pick" s_pick ["_law_box_here", "_law_some"]
  t_heard : Txt1 K mg "_law_heard" s_heard ["_law_ranked", "_law_lent", "_law_fair"]
  t_lread : Txt1 K mg "_law_read" s_lread ["_law_thing"]
  t_told : Txt1 K mg "_law_told" s_told ["_law_ranked", "_law_lent", "_law_fair"]
  ai_bool : AnsOk K (.type "bool") (ansB "bool" 0)
  ai_int : AnsOk K (.type "int") (ansB "int" 0)
  ai_str : AnsOk K (.type "str") (ansB "str" 0)
  ao_Turns : AnsOk K (.ref (K.κ 0)) (ansO 0)
  xm_Turns : mg "Turns" = some (.ref (K.κ 0))
  xm_InvalidTurns : mg "InvalidTurns" = some (.ref (K.κ 1))
  xm_InvalidText : mg "InvalidText" = some (.ref (K.κ 2))
  xm_RoadError : mg "RoadError" = some (.ref (K.κ 3))
  eq_Turns : EqC K 0
  ct_InvalidTurns : Catch K (.ref (K.κ 1)) ct_InvalidTurns
  ct_InvalidText : Catch K (.ref (K.κ 2)) ct_InvalidText
  xf_InvalidTurns : XfC K.K (K.κ 1)
  xf_InvalidText : XfC K.K (K.κ 2)
  xn_InvalidTurns : PySem.W.findIn K.K (.ref (K.κ 1)) "word" = some none
  xn_InvalidText : PySem.W.findIn K.K (.ref (K.κ 2)) "at" = some none
  xe_InvalidTurns : ExcC K.K (K.κ 1)
  xk_InvalidTurns_RoadError : PySem.W.kitOne K.K (.ref (K.κ 1)) (.ref (K.κ 3)) = some true
  xk_InvalidTurns_InvalidText : PySem.W.kitOne K.K (.ref (K.κ 1)) (.ref (K.κ 2)) = some false
def b_is_integer : Sx :=
  (sRet (eAnd (eUn (gIsiG (ansB "int" 0)) (eVar 0)) (eNot (eUn (gIsiG (ansB "bool" 0)) (eVar 0)))))
theorem ok_is_integer {P : Program} {w : World} {K : Kt} {mg : Str → Option Value} {base : Heap} (T : Tx K mg) : Def P w K mg base "is_integer" s_is_integer 1 ["value"] (runF 1 b_is_integer) := by
  refine mkDef T.t_is_integer sc_is_integer ?_
  rintro f G rfl cdv A outer s H E hr
  exact (ds_one (ds_ret (de_and rfl (de_isiB rfl T.ai_int rfl T.b_isinstance rfl T.b_int (by decide +kernel) (de_var (pv 0))) (de_one (de_not rfl (de_isiB rfl T.ai_bool rfl T.b_isinstance rfl T.b_bool (by decide +kernel) (de_var (pv 0))))))))
def isIntF : Fn := trimF (runF 1 b_is_integer)
theorem ok1_is_integer {P : Program} {w : World} {K : Kt} {mg : Str → Option Value} {base : Heap} (T : Tx K mg) : Def P w K mg base "is_integer" s_is_integer 1 ["value"] isIntF := (ok_is_integer T ).trim
def b_is_number : Sx :=
  (sRet (eAnd (eCall 0 isIntF (aCons (eVar 0) aNil)) (eOp gGe (eVar 0) (eC (.int 0)))))
theorem ok_is_number {P : Program} {w : World} {K : Kt} {mg : Str → Option Value} {base : Heap} (T : Tx K mg) (d_is_integer : Def P w K mg base "is_integer" s_is_integer 1 ["value"] isIntF) : Def P w K mg base "is_number" s_is_number 2 ["value"] (runF 1 b_is_number) := by
  refine mkDef T.t_is_number sc_is_number ?_
  rintro f G rfl cdv A outer s H E hr
  exact (ds_one (ds_ret (de_and rfl (de_callD 0 d_is_integer rfl (takes_of rfl rfl rfl rfl) (hr.mono (by decide)) (da_cons (de_var (pv 0)) da_nil) (alen_cons alen_nil)) (de_one (de_ge (de_var (pv 0)) de_int)))))
def isNumF : Fn := trimF (runF 1 b_is_number)
theorem ok1_is_number {P : Program} {w : World} {K : Kt} {mg : Str → Option Value} {base : Heap} (T : Tx K mg) (d_is_integer : Def P w K mg base "is_integer" s_is_integer 1 ["value"] isIntF) : Def P w K mg base "is_number" s_is_number 2 ["value"] isNumF := (ok_is_number T d_is_integer).trim
def b_init : Sx :=
  (sSeq (sIf (tNot' (tTru (eUn (gIsiG (ansB "bool" 0)) (eVar 1)))) (sRaise 1 "word" (eC (.str "ranked"))) sNil)
    (sSeq (sIf (tOr' (tNot' (tTru (eUn (gIsiG (ansB "bool" 0)) (eVar 2)))) (tAnd' (tTru (eVar 2)) (tNot' (tTru (eVar 1))))) (sRaise 1 "word" (eC (.str "lent"))) sNil)
    (sSeq (sIf (tAnd' (tCmp' (gIs true) (eVar 3) (eC .non)) (tOr' (tNot' (tTru (eCall 0 isNumF (aCons (eVar 3) aNil)))) (tCmp' (gEqB false) (eVar 3) (eC (.int 0))))) (sRaise 1 "word" (eC (.str "fair"))) sNil)
    (sSeq (sSetFld 0 "ranked" (eVar 1) (eVar 0))
    (sSeq (sSetFld 0 "lent" (eVar 2) (eVar 0))
    (sSetFld 0 "fair" (eVar 3) (eVar 0)))))))
theorem ok_init {P : Program} {w : World} {K : Kt} {mg : Str → Option Value} {base : Heap} (T : Tx K mg) (x_InvalidTurns : Xc P w K mg base "InvalidTurns" 1 "word") (d_is_number : Def P w K mg base "is_number" s_is_number 2 ["value"] isNumF) : DefCX P w K mg base "Turns" 0 3 ["self", "ranked", "lent", "fair"] (runF 4 b_init) (PhiT K) := by
  refine mkDefCX T.t_init sc_init ?_
  rintro f G rfl cdv A outer s H E hr
  exact (ds_cons (ds_if (dt_not (dt_tru rfl (de_isiB rfl T.ai_bool rfl T.b_isinstance rfl T.b_bool (by decide +kernel) (de_var (pv 1))))) (ds_one (ds_raise x_InvalidTurns rfl rfl (takes_of rfl rfl rfl rfl) (hr.mono (by decide)) de_str)) ds_nil)
    (ds_cons (ds_if (dt_w (dw_or (dt_not (dt_tru rfl (de_isiB rfl T.ai_bool rfl T.b_isinstance rfl T.b_bool (by decide +kernel) (de_var (pv 2))))) (dw_or1 (dt_w (dw_and (dt_tru rfl (de_var (pv 2))) (dw_and1 (dt_not (dt_tru rfl (de_var (pv 1)))))))))) (ds_one (ds_raise x_InvalidTurns rfl rfl (takes_of rfl rfl rfl rfl) (hr.mono (by decide)) de_str)) ds_nil)
    (ds_cons (ds_if (dt_w (dw_and (dt_isnot (de_var (pv 3)) de_non) (dw_and1 (dt_w (dw_or (dt_not (dt_tru rfl (de_callD 0 d_is_number rfl (takes_of rfl rfl rfl rfl) (hr.mono (by decide)) (da_cons (de_var (pv 3)) da_nil) (alen_cons alen_nil)))) (dw_or1 (dt_eq rfl hr.units (de_var (pv 3)) de_int))))))) (ds_one (ds_raise x_InvalidTurns rfl rfl (takes_of rfl rfl rfl rfl) (hr.mono (by decide)) de_str)) ds_nil)
    (ds_cons (ds_fld rfl T.f_Turns_ranked (de_var (pv 0)) (de_var (pv 1)))
    (ds_cons (ds_fld rfl T.f_Turns_lent (de_var (pv 0)) (de_var (pv 2)))
    (ds_one (ds_fld rfl T.f_Turns_fair (de_var (pv 0)) (de_var (pv 3)))))))))
def initF : Fn := runF 4 b_init
theorem ok1_init {P : Program} {w : World} {K : Kt} {mg : Str → Option Value} {base : Heap} (T : Tx K mg) (x_InvalidTurns : Xc P w K mg base "InvalidTurns" 1 "word") (d_is_number : Def P w K mg base "is_number" s_is_number 2 ["value"] isNumF) : DefCX P w K mg base "Turns" 0 3 ["self", "ranked", "lent", "fair"] initF (PhiT K) := (ok_init T x_InvalidTurns d_is_number)
def b_fair_in : Sx :=
  (sSeq (sIf (tOr' (tCmp' (gEqB true) (eB hLen (aCons (eVar 0) aNil)) (eC (.int 2))) (tOr' (tCmp' (gEqB true) (eOp gIx (eVar 0) (eC (.int 0))) (eC (.str "fair"))) (tNot' (tChn gLt gLt (eC (.int 0)) (eB hLen (aCons (eOp gIx (eVar 0) (eC (.int 1))) aNil)) (eC (.int 4)))))) (sRet (eC .non)) sNil)
    (sSeq (sIf (tOr' (tNot' (tTru (eB hAll (aCons (eLc (iS (eOp gIx (eVar 0) (eC (.int 1)))) (gNm 1) tTrue (eOp (gIn false) (eVar 1) (eC (.str "0123456789"))) [1]) aNil)))) (tCmp' (gEqB false) (eOp gIx (eOp gIx (eVar 0) (eC (.int 1))) (eC (.int 0))) (eC (.str "0")))) (sRet (eC .non)) sNil)
    (sRet (eB hIntS (aCons (eOp gIx (eVar 0) (eC (.int 1))) aNil)))))
theorem ok_fair_in {P : Program} {w : World} {K : Kt} {mg : Str → Option Value} {base : Heap} (T : Tx K mg) : Def P w K mg base "fair_in" s_fair_in 1 ["words"] (runF 2 b_fair_in) := by
  refine mkDef T.t_fair_in sc_fair_in ?_
  rintro f G rfl cdv A outer s H E hr
  obtain ⟨u_DIGITS, hm_DIGITS, hr_DIGITS⟩ := T.c_DIGITS
  exact (ds_cons (ds_if (dt_w (dw_or (dt_ne rfl hr.units (de_len rfl rfl T.b_len (da_cons (de_var (pv 0)) da_nil)) de_int) (dw_or (dt_ne rfl hr.units (de_ix rfl (de_var (pv 0)) de_int) de_str) (dw_or1 (dt_not (dt_chain (op_lt.or op_lt_str) (op_lt.or op_lt_str) v2_ord v2_ord de_int (de_len rfl rfl T.b_len (da_cons (de_ix rfl (de_var (pv 0)) de_int) da_nil)) de_int)))))) (ds_one (ds_ret de_non)) ds_nil)
    (ds_cons (ds_if (dt_w (dw_or (dt_not (dt_tru rfl (de_all rfl rfl rfl T.b_all (da_cons (de_lc (own := [("sign", 1)]) rfl sc_fair_in.nd (di_str (de_ix rfl (de_var (pv 0)) de_int)) (blkOk_by (N := n_fair_in) (sc := defScope s_fair_in) (by decide +kernel)) (by decide) (fun _ _ _ _ _ => (dg_name (i := 1) sc_fair_in.nd)) (fun _ _ _ _ _ => dts_nil) (fun _ _ _ _ _ => (de_in rfl (de_var (pv 1)) (de_c (pe_glob rfl hm_DIGITS hr_DIGITS) (fun _ _ => .str _))))) da_nil)))) (dw_or1 (dt_eq rfl hr.units (de_ix rfl (de_ix rfl (de_var (pv 0)) de_int) de_int) de_str)))) (ds_one (ds_ret de_non)) ds_nil)
    (ds_one (ds_ret (de_intS rfl T.b_int (da_cons (de_ix rfl (de_var (pv 0)) de_int) da_nil))))))
def fairF : Fn := trimF (runF 2 b_fair_in)
theorem ok1_fair_in {P : Program} {w : World} {K : Kt} {mg : Str → Option Value} {base : Heap} (T : Tx K mg) : Def P w K mg base "fair_in" s_fair_in 1 ["words"] fairF := (ok_fair_in T ).trim
def b_read : Sx :=
  (sSeq (sIf (tNot' (tTru (eUn (gIsiG (ansB "str" 0)) (eVar 1)))) (sRaise 2 "at" (eC (.int 0))) sNil)
    (sSeq (sAsg (eMS gSplit (eVar 1) (eC (.str " "))) (gNm 2))
    (sSeq (sAsg (eCall 0 fairF (aCons (eSl false (eVar 2) (oSome (eUn gNeg (eC (.int 2)))) oNone) aNil)) (gNm 3))
    (sSeq (sIf (tCmp' (gIs true) (eVar 3) (eC .non)) (sAsg (eSl false (eVar 2) oNone (oSome (eUn gNeg (eC (.int 2))))) (gNm 2)) sNil)
    (sSeq (sIf (tOr' (tCmp' (gInT true) (eVar 2) (eTup (aCons (eLst aNil) (aCons (eLst (aCons (eC (.str "any")) aNil)) (aCons (eLst (aCons (eC (.str "ranks")) aNil)) (aCons (eLst (aCons (eC (.str "ranks")) (aCons (eC (.str "lent")) aNil))) aNil)))))) (tAnd' (tCmp' (gEqB false) (eB hLen (aCons (eVar 2) aNil)) (eC (.int 0))) (tCmp' (gIs false) (eVar 3) (eC .non)))) (sRaise 2 "at" (eC (.int 0))) sNil)
    (sSeq (sIf (tAnd' (tCmp' (gEqB false) (eVar 2) (eLst (aCons (eC (.str "any")) aNil))) (tCmp' (gIs true) (eVar 3) (eC .non))) (sRaise 2 "at" (eC (.int 0))) sNil)
    (sRet (eMakeL 0 0 initF (aCons (eOp (gEqB false) (eSl false (eVar 2) oNone (oSome (eC (.int 1)))) (eLst (aCons (eC (.str "ranks")) aNil))) (aCons (eOp (gEqB false) (eSl false (eVar 2) (oSome (eC (.int 1))) oNone) (eLst (aCons (eC (.str "lent")) aNil))) (aCons (eVar 3) aNil)))))))))))
theorem ok_read {P : Program} {w : World} {K : Kt} {mg : Str → Option Value} {base : Heap} (T : Tx K mg) (x_InvalidText : Xc P w K mg base "InvalidText" 2 "at") (d_fair_in : Def P w K mg base "fair_in" s_fair_in 1 ["words"] fairF) (m_Turns : DefCX P w K mg base "Turns" 0 3 ["self", "ranked", "lent", "fair"] initF (PhiT K)) : DefCM P w K mg base "Turns" 0 "read" 5 ["cls", "text"] (runF 4 b_read) := by
  refine mkDefCM T.t_read sc_read ?_
  rintro f G rfl cdv A outer s H E hr
  exact (ds_cons (ds_if (dt_not (dt_tru rfl (de_isiB rfl T.ai_str rfl T.b_isinstance rfl T.b_str (by decide +kernel) (de_var (pv 1))))) (ds_one (ds_raise x_InvalidText rfl rfl (takes_of rfl rfl rfl rfl) (hr.mono (by decide)) de_int)) ds_nil)
    (ds_cons (ds_set (i := 2) sc_read.nd (de_split (de_var (pv 1)) de_str))
    (ds_cons (ds_set (i := 3) sc_read.nd (de_callD 0 d_fair_in rfl (takes_of rfl rfl rfl rfl) (hr.mono (by decide)) (da_cons (de_slice (own := false) rfl (de_var (pv 2)) (do_some (de_neg de_int)) do_none) da_nil) (alen_cons alen_nil)))
    (ds_cons (ds_if (dt_isnot (de_var (pv 3)) de_non) (ds_one (ds_set (i := 2) sc_read.nd (de_slice (own := false) rfl (de_var (pv 2)) do_none (do_some (de_neg de_int))))) ds_nil)
    (ds_cons (ds_if (dt_w (dw_or (dt_notinT rfl (units65 hr) (de_var (pv 2)) (de_tup (da_cons (de_lst da_nil) (da_cons (de_lst (da_cons de_str da_nil)) (da_cons (de_lst (da_cons de_str da_nil)) (da_cons (de_lst (da_cons de_str (da_cons de_str da_nil))) da_nil))))) rfl) (dw_or1 (dt_w (dw_and (dt_eq rfl hr.units (de_len rfl rfl T.b_len (da_cons (de_var (pv 2)) da_nil)) de_int) (dw_and1 (dt_is (de_var (pv 3)) de_non))))))) (ds_one (ds_raise x_InvalidText rfl rfl (takes_of rfl rfl rfl rfl) (hr.mono (by decide)) de_int)) ds_nil)
    (ds_cons (ds_if (dt_w (dw_and (dt_eq rfl hr.units (de_var (pv 2)) (de_lst (da_cons de_str da_nil))) (dw_and1 (dt_isnot (de_var (pv 3)) de_non)))) (ds_one (ds_raise x_InvalidText rfl rfl (takes_of rfl rfl rfl rfl) (hr.mono (by decide)) de_int)) ds_nil)
    (ds_one (ds_ret (de_makeLD (i := 0) m_Turns.toC rfl flatE (takes_of rfl rfl rfl rfl) (hr.mono (by decide)) rfl (.inl rfl) (da_cons (de_eq rfl hr.units (de_slice (own := false) rfl (de_var (pv 2)) do_none (do_some de_int)) (de_lst (da_cons de_str da_nil))) (da_cons (de_eq rfl hr.units (de_slice (own := false) rfl (de_var (pv 2)) (do_some de_int) do_none) (de_lst (da_cons de_str da_nil))) (da_cons (de_var (pv 3)) da_nil))) (alen_s rfl (alen_cons (alen_cons (alen_cons alen_nil)))))))))))))
def readF : Fn := trimF (runF 4 b_read)
theorem ok1_read {P : Program} {w : World} {K : Kt} {mg : Str → Option Value} {base : Heap} (T : Tx K mg) (x_InvalidText : Xc P w K mg base "InvalidText" 2 "at") (d_fair_in : Def P w K mg base "fair_in" s_fair_in 1 ["words"] fairF) (m_Turns : DefCX P w K mg base "Turns" 0 3 ["self", "ranked", "lent", "fair"] initF (PhiT K)) : DefCM P w K mg base "Turns" 0 "read" 5 ["cls", "text"] readF := (ok_read T x_InvalidText d_fair_in m_Turns).trim
def b_str : Sx :=
  (sSeq (sAsg (eIf (tTru (eUn (gFldC 0 "ranked") (eVar 0))) (eLst (aCons (eC (.str "ranks")) aNil)) (eLst aNil)) (gNm 1))
    (sSeq (sAsg (eIf (tTru (eUn (gFldC 0 "lent") (eVar 0))) (eLst (aStar (eVar 1) (aCons (eC (.str "lent")) aNil))) (eVar 1)) (gNm 1))
    (sSeq (sAsg (eIf (tCmp' (gIs false) (eUn (gFldC 0 "fair") (eVar 0)) (eC .non)) (eVar 1) (eLst (aStar (eVar 1) (aCons (eC (.str "fair")) (aCons (eB hStrI (aCons (eUn (gFldC 0 "fair") (eVar 0)) aNil)) aNil))))) (gNm 1))
    (sSeq (sIf (tCmp' (gEqB false) (eB hLen (aCons (eVar 1) aNil)) (eC (.int 0))) (sRet (eC (.str "any"))) sNil)
    (sRet (eMS gJoin (eC (.str " ")) (eVar 1)))))))
theorem ok_str {P : Program} {w : World} {K : Kt} {mg : Str → Option Value} {base : Heap} (T : Tx K mg) : DefM P w K mg base 0 "__str__" 1 ["self"] (runF 2 b_str) := by
  refine mkDefM T.t_str sc_str ?_
  rintro f G rfl cdv A outer s H E hr
  exact (ds_cons (ds_set (i := 1) sc_str.nd (de_if (dt_tru rfl (de_fld rfl T.f_Turns_ranked (de_var (pv 0)))) (de_lst (da_cons de_str da_nil)) (de_lst da_nil)))
    (ds_cons (ds_set (i := 1) sc_str.nd (de_if (dt_tru rfl (de_fld rfl T.f_Turns_lent (de_var (pv 0)))) (de_lst (da_star rfl (de_var (pv 1)) (da_cons de_str da_nil))) (de_var (pv 1))))
    (ds_cons (ds_set (i := 1) sc_str.nd (de_if (dt_is (de_fld rfl T.f_Turns_fair (de_var (pv 0))) de_non) (de_var (pv 1)) (de_lst (da_star rfl (de_var (pv 1)) (da_cons de_str (da_cons (de_strI rfl T.b_str (da_cons (de_fld rfl T.f_Turns_fair (de_var (pv 0))) da_nil)) da_nil))))))
    (ds_cons (ds_if (dt_eq rfl hr.units (de_len rfl rfl T.b_len (da_cons (de_var (pv 1)) da_nil)) de_int) (ds_one (ds_ret de_str)) ds_nil)
    (ds_one (ds_ret (de_join rfl de_str (de_var (pv 1)))))))))
def strF : Fn := trimF (runF 2 b_str)
theorem ok1_str {P : Program} {w : World} {K : Kt} {mg : Str → Option Value} {base : Heap} (T : Tx K mg) : DefM P w K mg base 0 "__str__" 1 ["self"] strF := (ok_str T ).trim
def b_eq : Sx :=
  (sRet (eAnd (eUn (gIsiG (ansO 0)) (eVar 1)) (eOp (gEqB false) (eB (hStrO 0 strF) (aCons (eVar 0) aNil)) (eB (hStrO 0 strF) (aCons (eVar 1) aNil)))))
theorem ok_eq {P : Program} {w : World} {K : Kt} {mg : Str → Option Value} {base : Heap} (T : Tx K mg) (o_str : DefM P w K mg base 0 "__str__" 1 ["self"] strF) : DefM P w K mg base 0 "__eq__" 4 ["self", "other"] (runF 2 b_eq) := by
  refine mkDefM T.t_eq sc_eq ?_
  rintro f G rfl cdv A outer s H E hr
  exact (ds_one (ds_ret (de_and rfl (de_isiO rfl T.ao_Turns rfl T.b_isinstance rfl T.xm_Turns (de_var (pv 1))) (de_one (de_eq rfl hr.units (de_strObj o_str rfl rfl flatE (takes_of rfl rfl rfl rfl) (hr.mono (by decide)) rfl T.b_str (da_cons (de_var (pv 0)) da_nil)) (de_strObj o_str rfl rfl flatE (takes_of rfl rfl rfl rfl) (hr.mono (by decide)) rfl T.b_str (da_cons (de_var (pv 1)) da_nil)))))))
def eqF : Fn := trimF (runF 2 b_eq)
theorem ok1_eq {P : Program} {w : World} {K : Kt} {mg : Str → Option Value} {base : Heap} (T : Tx K mg) (o_str : DefM P w K mg base 0 "__str__" 1 ["self"] strF) : DefM P w K mg base 0 "__eq__" 4 ["self", "other"] eqF := (ok_eq T o_str).trim
def b_box : Sx :=
  (sSeq (sAsg (eOp gAdd (eOp gMul (eC (.int 9029)) (eVar 1)) (eC (.int 173))) (gNm 2))
    (sSeq (sIf (tCmp' gLt (eVar 1) (eB hLen (aCons (eVar 0) aNil))) (sAsg (eB hAbs (aCons (eB hInt (aCons (eOp gIx (eVar 0) (eVar 1)) aNil)) aNil)) (gNm 2)) (sIf (tCmp' gGt (eB hLen (aCons (eVar 0) aNil)) (eC (.int 0))) (sAsg (eOp gAdd (eVar 2) (eOp gMul (eOp gMod (eB hInt (aCons (eB hAbs (aCons (eB hInt (aCons (eOp gIx (eVar 0) (eOp gMod (eB hInt (aCons (eVar 1) aNil)) (eB hLen (aCons (eVar 0) aNil)))) aNil)) aNil)) aNil)) (eC (.int 2147483629))) (eC (.int 61757)))) (gNm 2)) sNil))
    (sSeq (sAsg (eIf (tCmp' gGe (eVar 2) (eOp gPow (eC (.int 10)) (eC (.int 18)))) (eVar 2) (eC (.int 0))) (gNm 3))
    (sRet (eLoc (aCons (eVar 3) (aCons (eOp gAdd (eOp gMod (eB hInt (aCons (eOp gAdd (eOp gMul (eOp gMod (eB hInt (aCons (eVar 2) aNil)) (eC (.int 2147483629))) (eC (.int 48271))) (eOp gMul (eC (.int 42641)) (eVar 1))) aNil)) (eC (.int 2147483629))) (eC (.int 1))) aNil)))))))
theorem ok_box {P : Program} {w : World} {K : Kt} {mg : Str → Option Value} {base : Heap} (T : Tx K mg) : Def P w K mg base "_law_box" s_box 1 ["_law_script", "_law_k"] (runF 4 b_box) := by
  refine mkDef T.t_box sc_box ?_
  rintro f G rfl cdv A outer s H E hr
  exact (ds_cons (ds_set (i := 2) sc_box.nd (de_add rfl (de_mul de_int (de_var (pv 1))) de_int))
    (ds_cons (ds_if (dt_lt (de_var (pv 1)) (de_len rfl rfl T.b_len (da_cons (de_var (pv 0)) da_nil))) (ds_one (ds_set (i := 2) sc_box.nd (de_abs rfl T.b_abs (da_cons (de_int1 rfl T.b_int (da_cons (de_ix rfl (de_var (pv 0)) (de_var (pv 1))) da_nil)) da_nil)))) (ds_one (ds_if (dt_gt (de_len rfl rfl T.b_len (da_cons (de_var (pv 0)) da_nil)) de_int) (ds_one (ds_set (i := 2) sc_box.nd (de_add rfl (de_var (pv 2)) (de_mul (de_mod (de_int1 rfl T.b_int (da_cons (de_abs rfl T.b_abs (da_cons (de_int1 rfl T.b_int (da_cons (de_ix rfl (de_var (pv 0)) (de_mod (de_int1 rfl T.b_int (da_cons (de_var (pv 1)) da_nil)) (de_len rfl rfl T.b_len (da_cons (de_var (pv 0)) da_nil)))) da_nil)) da_nil)) da_nil)) de_int) de_int)))) ds_nil)))
    (ds_cons (ds_set (i := 3) sc_box.nd (de_if (dt_ge (de_var (pv 2)) (de_pow de_int de_int)) (de_var (pv 2)) de_int))
    (ds_one (ds_ret (de_loc (da_cons (de_var (pv 3)) (da_cons (de_add rfl (de_mod (de_int1 rfl T.b_int (da_cons (de_add rfl (de_mul (de_mod (de_int1 rfl T.b_int (da_cons (de_var (pv 2)) da_nil)) de_int) de_int) (de_mul de_int (de_var (pv 1)))) da_nil)) de_int) de_int) da_nil))))))))
def boxF : Fn := runF 4 b_box
theorem ok1_box {P : Program} {w : World} {K : Kt} {mg : Str → Option Value} {base : Heap} (T : Tx K mg) : Def P w K mg base "_law_box" s_box 1 ["_law_script", "_law_k"] boxF := (ok_box T )
def b_take : Sx :=
  (sSeq (sIf (tCmp' gGt (eOp gIx (eVar 0) (eC (.int 0))) (eC (.int 0))) (sSeq (sAsg (eOp gMod (eB hInt (aCons (eOp gIx (eVar 0) (eC (.int 0))) aNil)) (eVar 1)) (gNm 2))
    (sSeq (sSetIx (eOp gFdiv (eOp gIx (eVar 0) (eC (.int 0))) (eVar 1)) (eVar 0) (eC (.int 0)))
    (sRet (eVar 2)))) sNil)
    (sSeq (sAsg (eOp gMod (eB hInt (aCons (eOp gAdd (eOp gMul (eOp gIx (eVar 0) (eC (.int 1))) (eC (.int 40014))) (eC (.int 73))) aNil)) (eC (.int 2147483563))) (gNm 3))
    (sSeq (sSetIx (eOp gAdd (eOp gMod (eB hInt (aCons (eOp gAdd (eOp gMul (eVar 3) (eC (.int 40692))) (eC (.int 4513))) aNil)) (eC (.int 2147483629))) (eC (.int 1))) (eVar 0) (eC (.int 1)))
    (sRet (eOp gMod (eB hInt (aCons (eOp gFdiv (eOp gAdd (eOp gMul (eVar 3) (eC (.int 2147483647))) (eOp gIx (eVar 0) (eC (.int 1)))) (eC (.int 8191))) aNil)) (eVar 1))))))
theorem ok_take {P : Program} {w : World} {K : Kt} {mg : Str → Option Value} {base : Heap} (T : Tx K mg) : Def P w K mg base "_law_take" s_take 1 ["_law_box_here", "_law_many"] (runF 4 b_take) := by
  refine mkDef T.t_take sc_take ?_
  rintro f G rfl cdv A outer s H E hr
  exact (ds_cons (ds_if (dt_gt (de_ix rfl (de_var (pv 0)) de_int) de_int) (ds_cons (ds_set (i := 2) sc_take.nd (de_mod (de_int1 rfl T.b_int (da_cons (de_ix rfl (de_var (pv 0)) de_int) da_nil)) (de_var (pv 1))))
    (ds_cons (ds_setIx (de_fdiv (de_ix rfl (de_var (pv 0)) de_int) (de_var (pv 1))) (de_var (pv 0)) de_int)
    (ds_one (ds_ret (de_var (pv 2)))))) ds_nil)
    (ds_cons (ds_set (i := 3) sc_take.nd (de_mod (de_int1 rfl T.b_int (da_cons (de_add rfl (de_mul (de_ix rfl (de_var (pv 0)) de_int) de_int) de_int) da_nil)) de_int))
    (ds_cons (ds_setIx (de_add rfl (de_mod (de_int1 rfl T.b_int (da_cons (de_add rfl (de_mul (de_var (pv 3)) de_int) de_int) da_nil)) de_int) de_int) (de_var (pv 0)) de_int)
    (ds_one (ds_ret (de_mod (de_int1 rfl T.b_int (da_cons (de_fdiv (de_add rfl (de_mul (de_var (pv 3)) de_int) (de_ix rfl (de_var (pv 0)) de_int)) de_int) da_nil)) (de_var (pv 1))))))))
def takeF : Fn := trimF (runF 4 b_take)
theorem ok1_take {P : Program} {w : World} {K : Kt} {mg : Str → Option Value} {base : Heap} (T : Tx K mg) : Def P w K mg base "_law_take" s_take 1 ["_law_box_here", "_law_many"] takeF := (ok_take T ).trim
def b_pick : Sx :=
  (sRet (eOp gIx (eVar 1) (eCall 1 takeF (aCons (eVar 0) (aCons (eB hLen (aCons (eVar 1) aNil)) aNil)))))
theorem ok_pick {P : Program} {w : World} {K : Kt} {mg : Str → Option Value} {base : Heap} (T : Tx K mg) (d_take : Def P w K mg base "_law_take" s_take 1 ["_law_box_here", "_law_many"] takeF) : Def P w K mg base "_law_pick" s_pick 2 ["_law_box_here", "_law_some"] (runF 2 b_pick) := by
  refine mkDef T.t_pick sc_pick ?_
  rintro f G rfl cdv A outer s H E hr
  exact (ds_one (ds_ret (de_ix rfl (de_var (pv 1)) (de_callD 1 d_take rfl (takes_of rfl rfl rfl rfl) (hr.mono (by decide)) (da_cons (de_var (pv 0)) (da_cons (de_len rfl rfl T.b_len (da_cons (de_var (pv 1)) da_nil)) da_nil)) (alen_cons (alen_cons alen_nil))))))
def pickF : Fn := trimF (runF 2 b_pick)
theorem ok1_pick {P : Program} {w : World} {K : Kt} {mg : Str → Option Value} {base : Heap} (T : Tx K mg) (d_take : Def P w K mg base "_law_take" s_take 1 ["_law_box_here", "_law_many"] takeF) : Def P w K mg base "_law_pick" s_pick 2 ["_law_box_here", "_law_some"] pickF := (ok_pick T d_take).trim
def b_heard : Sx :=
  (sSeq (sAsg (eC .non) (gNm 3))
    (sSeq (sTry1 ct_InvalidTurns 4 3 (sExpr (eMake 0 initF (aCons (eVar 0) (aCons (eVar 1) (aCons (eVar 2) aNil))))) (if (true && (!false)) then (fun ex st => match lookD "word" ex.ks ex.ds with | some d => .ok d st.cs | none => .no) else (fun _ st => .ok (.str "other") st.cs)))
    (sRet (eVar 3))))
theorem ok_heard {P : Program} {w : World} {K : Kt} {mg : Str → Option Value} {base : Heap} (T : Tx K mg) (m_Turns : DefCX P w K mg base "Turns" 0 3 ["self", "ranked", "lent", "fair"] initF (PhiT K)) : Def P w K mg base "_law_heard" s_heard 5 ["_law_ranked", "_law_lent", "_law_fair"] (runF 5 b_heard) := by
  refine mkDef T.t_heard sc_heard ?_
  rintro f G rfl cdv A outer s H E hr
  exact (ds_cons (ds_set (i := 3) sc_heard.nd de_non)
    (ds_cons (ds_try1 (i := 4) (j := 3) rfl rfl rfl sc_heard.nd rfl rfl rfl ⟨rfl, by decide, .inl T.xm_InvalidTurns⟩ T.ct_InvalidTurns (takes_of rfl rfl rfl rfl) (fun _ _ _ tk _ => (ds_one (ds_expr (de_makeSD m_Turns.toC rfl tk (hr.mono (by decide)) (da_cons (de_var (pv 0)) (da_cons (de_var (pv 1)) (da_cons (de_var (pv 2)) da_nil))) (alen_cons (alen_cons (alen_cons alen_nil))) rfl)))) (se_if (sb_and (sb_isi rfl T.xe_InvalidTurns rfl T.b_isinstance rfl T.xm_RoadError T.xk_InvalidTurns_RoadError (fun _ _ => pv 4)) (sb_not (sb_isi rfl T.xe_InvalidTurns rfl T.b_isinstance rfl T.xm_InvalidText T.xk_InvalidTurns_InvalidText (fun _ _ => pv 4)))) only_InvalidTurns (se_fld rfl T.xf_InvalidTurns T.xn_InvalidTurns only_InvalidTurns (fun _ _ => pv 4)) se_str))
    (ds_one (ds_ret (de_var (pv 3))))))
def heardF : Fn := trimF (runF 5 b_heard)
theorem ok1_heard {P : Program} {w : World} {K : Kt} {mg : Str → Option Value} {base : Heap} (T : Tx K mg) (m_Turns : DefCX P w K mg base "Turns" 0 3 ["self", "ranked", "lent", "fair"] initF (PhiT K)) : Def P w K mg base "_law_heard" s_heard 5 ["_law_ranked", "_law_lent", "_law_fair"] heardF := (ok_heard T m_Turns).trim
def b_lread : Sx :=
  (sSeq (sAsg (eC .non) (gNm 1))
    (sSeq (sTry1 ct_InvalidText 2 1 (sAsg (eCMeth 0 0 readF (aCons (eVar 0) aNil)) (gNm 1)) (fun ex st => match lookD "at" ex.ks ex.ds with | some d => .ok d st.cs | none => .no))
    (sRet (eVar 1))))
theorem ok_lread {P : Program} {w : World} {K : Kt} {mg : Str → Option Value} {base : Heap} (T : Tx K mg) (k_read : DefCM P w K mg base "Turns" 0 "read" 5 ["cls", "text"] readF) : Def P w K mg base "_law_read" s_lread 6 ["_law_thing"] (runF 3 b_lread) := by
  refine mkDef T.t_lread sc_lread ?_
  rintro f G rfl cdv A outer s H E hr
  exact (ds_cons (ds_set (i := 1) sc_lread.nd de_non)
    (ds_cons (ds_try1 (i := 2) (j := 1) rfl rfl rfl sc_lread.nd rfl rfl rfl ⟨rfl, by decide, .inl T.xm_InvalidText⟩ T.ct_InvalidText (takes_of rfl rfl rfl rfl) (fun _ _ _ tk _ => (ds_one (ds_set (i := 1) sc_lread.nd (de_cmethSD 0 k_read rfl tk (hr.mono (by decide)) (da_cons (de_var (pv 0)) da_nil) (alen_cons alen_nil) rfl)))) (se_fld rfl T.xf_InvalidText T.xn_InvalidText only_InvalidText (fun _ _ => pv 2)))
    (ds_one (ds_ret (de_var (pv 1))))))
def lreadF : Fn := trimF (runF 3 b_lread)
theorem ok1_lread {P : Program} {w : World} {K : Kt} {mg : Str → Option Value} {base : Heap} (T : Tx K mg) (k_read : DefCM P w K mg base "Turns" 0 "read" 5 ["cls", "text"] readF) : Def P w K mg base "_law_read" s_lread 6 ["_law_thing"] lreadF := (ok_lread T k_read).trim
def b_told : Sx :=
  (sSeq (sAsg (eOp gAdd (eOp gAdd (eOp gMul (eLst (aCons (eC (.str "ranks")) aNil)) (eB hInt (aCons (eVar 0) aNil))) (eOp gMul (eLst (aCons (eC (.str "lent")) aNil)) (eB hInt (aCons (eVar 1) aNil)))) (eIf (tCmp' (gIs false) (eVar 2) (eC .non)) (eLst aNil) (eLst (aCons (eOp gAdd (eC (.str "fair ")) (eB hStrI (aCons (eVar 2) aNil))) aNil)))) (gNm 3))
    (sRet (eIf (tCmp' (gEqB false) (eVar 3) (eLst aNil)) (eC (.str "any")) (eMS gJoin (eC (.str " ")) (eVar 3)))))
theorem ok_told {P : Program} {w : World} {K : Kt} {mg : Str → Option Value} {base : Heap} (T : Tx K mg) : Def P w K mg base "_law_told" s_told 1 ["_law_ranked", "_law_lent", "_law_fair"] (runF 4 b_told) := by
  refine mkDef T.t_told sc_told ?_
  rintro f G rfl cdv A outer s H E hr
  exact (ds_cons (ds_set (i := 3) sc_told.nd (de_add rfl (de_add rfl (de_mul (de_lst (da_cons de_str da_nil)) (de_int1 rfl T.b_int (da_cons (de_var (pv 0)) da_nil))) (de_mul (de_lst (da_cons de_str da_nil)) (de_int1 rfl T.b_int (da_cons (de_var (pv 1)) da_nil)))) (de_if (dt_is (de_var (pv 2)) de_non) (de_lst da_nil) (de_lst (da_cons (de_add rfl de_str (de_strI rfl T.b_str (da_cons (de_var (pv 2)) da_nil))) da_nil)))))
    (ds_one (ds_ret (de_if (dt_eq rfl hr.units (de_var (pv 3)) (de_lst da_nil)) de_str (de_join rfl de_str (de_var (pv 3)))))))
def toldF : Fn := trimF (runF 4 b_told)
theorem ok1_told {P : Program} {w : World} {K : Kt} {mg : Str → Option Value} {base : Heap} (T : Tx K mg) : Def P w K mg base "_law_told" s_told 1 ["_law_ranked", "_law_lent", "_law_fair"] toldF := (ok_told T ).trim
abbrev l_law_0 : Sx :=
  (sSeq (sPar [5, 6] (aCons (eMake 0 initF (aCons (eVar 2) (aCons (eVar 3) (aCons (eVar 4) aNil)))) (aCons (eCall 0 toldF (aCons (eVar 2) (aCons (eVar 3) (aCons (eVar 4) aNil)))) aNil)))
    (sSeq (sIf (tCmp' (gEqB true) (eB hRepr (aCons (eLst (aCons (eUn (gFldC 0 "ranked") (eVar 5)) (aCons (eUn (gFldC 0 "lent") (eVar 5)) (aCons (eUn (gFldC 0 "fair") (eVar 5)) (aCons (eB (hStrO 0 strF) (aCons (eVar 5) aNil)) aNil))))) aNil)) (eB hRepr (aCons (eLst (aCons (eVar 2) (aCons (eVar 3) (aCons (eVar 4) (aCons (eVar 6) aNil))))) aNil))) (sRet (eC (.bl false))) sNil)
    (sSeq (sIf (tOr' (tCmp' (gCmpO true 0 eqF) (eCMeth 0 0 readF (aCons (eVar 6) aNil)) (eVar 5)) (tOr' (tCmp' (gCmpO false 0 eqF) (eVar 5) (eVar 6)) (tCmp' (gCmpO false 0 eqF) (eVar 5) (eMake 0 initF (aCons (eVar 2) (aCons (eVar 3) (aCons (eC (.int 95)) aNil))))))) (sRet (eC (.bl false))) sNil)
    (sIf (tCmp' (gCmpO true 0 eqF) (eVar 5) (eMakeK 0 initF [2, 1, 0] (aCons (eVar 4) (aCons (eVar 3) (aCons (eVar 2) aNil))))) (sRet (eC (.bl false))) sNil))))
abbrev l_law_1 : Sx :=
  (sFor (iT (eTup (aCons (eC .non) (aCons (eC (.int 1)) (aCons (eOp gAdd (eC (.int 1)) (eCall 1 takeF (aCons (eVar 1) (aCons (eC (.int 90)) aNil)))) aNil))))) (gNm 4) l_law_0)
abbrev l_law_2 : Sx :=
  (sIf (tOr' (tCmp' (gEqB true) (eCall 0 heardF (aCons (eVar 8) (aCons (eVar 8) (aCons (eVar 8) aNil)))) (eC (.str "ranked"))) (tCmp' (gEqB true) (eCall 0 heardF (aCons (eC (.bl true)) (aCons (eVar 8) (aCons (eC (.int 0)) aNil)))) (eC (.str "lent")))) (sRet (eC (.bl false))) sNil)
abbrev l_law_3 : Sx :=
  (sIf (tCmp' (gEqB true) (eCall 0 heardF (aCons (eC (.bl true)) (aCons (eCall 1 pickF (aCons (eVar 1) (aCons (eLst (aCons (eC (.bl true)) (aCons (eC (.bl false)) aNil))) aNil))) (aCons (eVar 8) aNil)))) (eC (.str "fair"))) (sRet (eC (.bl false))) sNil)
abbrev l_law_4 : Sx :=
  (sIf (tCmp' (gEqB true) (eB hRepr (aCons (eCall 0 lreadF (aCons (eVar 8) aNil)) aNil)) (eC (.str "0"))) (sRet (eC (.bl false))) sNil)
abbrev q_law_0 : Sx :=
  (sAsg (eCallAll boxF (aCons (eVar 0) (aCons (eC (.int 0)) aNil))) (gNm 1))
abbrev q_law_1 : Sx :=
  (sFor (iT (eTup (aCons (eTup (aCons (eC (.bl false)) (aCons (eC (.bl false)) aNil))) (aCons (eTup (aCons (eC (.bl true)) (aCons (eC (.bl false)) aNil))) (aCons (eTup (aCons (eC (.bl true)) (aCons (eC (.bl true)) aNil))) aNil))))) (gTp 2 (gsCons (gNm 2) (gsCons (gNm 3) gsNil))) l_law_1)
abbrev q_law_2 : Sx :=
  (sIf (tOr' (tCmp' (gEqB true) (eB (hStrO 0 strF) (aCons (eMake0 0 initF [.bl false, .bl false, .non]) aNil)) (eC (.str "any"))) (tCmp' (gCmpO true 0 eqF) (eMake0 0 initF [.bl false, .bl false, .non]) (eMake 0 initF (aCons (eC (.bl false)) (aCons (eC (.bl false)) (aCons (eC .non) aNil)))))) (sRet (eC (.bl false))) sNil)
abbrev q_law_3 : Sx :=
  (sAsg (eLst (aCons (eC .non) (aCons (eC (.int 0)) (aCons (eC (.int 1)) (aCons (eC (.str "ranks")) (aCons (eTup aNil) (aCons (eLst (aCons (eC (.bl true)) aNil)) aNil))))))) (gNm 7))
abbrev q_law_4 : Sx :=
  (sFor (iL (eVar 7)) (gNm 8) l_law_2)
abbrev q_law_5 : Sx :=
  (sFor (iL (eLst (aCons (eC (.str "1")) (aCons (eC (.int 0)) (aCons (eOp gSub (eC (.int 0)) (eC (.int 3))) (aCons (eC (.bl true)) (aCons (eC (.bl false)) (aCons (eTup (aCons (eC (.int 1)) aNil)) (aCons (eLst (aCons (eC (.int 2)) aNil)) aNil))))))))) (gNm 8) l_law_3)
abbrev q_law_6 : Sx :=
  (sIf (tOr' (tCmp' (gEqB true) (eCall 0 heardF (aCons (eC (.bl false)) (aCons (eC (.bl true)) (aCons (eC (.int 1)) aNil)))) (eC (.str "lent"))) (tCmp' (gEqB true) (eCall 0 heardF (aCons (eC (.bl false)) (aCons (eC (.bl false)) (aCons (eC (.int 0)) aNil)))) (eC (.str "fair")))) (sRet (eC (.bl false))) sNil)
abbrev q_law_7 : Sx :=
  (sAsg (eLst (aCons (eC (.str "")) (aCons (eC (.str "rank")) (aCons (eC (.str "lent")) (aCons (eC (.str "ranks  lent")) (aCons (eC (.str "any fair 2")) (aCons (eC (.str "fair")) (aCons (eC (.str "fair 0")) (aCons (eC (.str "fair 02")) (aCons (eC (.str "fair 2 ranks")) (aCons (eC (.str "ranks fair")) aNil))))))))))) (gNm 9))
abbrev q_law_8 : Sx :=
  (sAsg (eOp gAdd (eVar 9) (eLst (aCons (eC (.str "lent ranks")) (aCons (eC (.str "Any")) (aCons (eC (.str " any")) (aCons (eC (.str "any ")) (aCons (eC (.str "fair -1")) (aCons (eC (.str "fair 1000")) (aCons (eC (.str "ranks lent fair 2 ")) (aCons (eC (.str "fair x")) (aCons (eC (.str "any\n")) aNil))))))))))) (gNm 9))
abbrev q_law_9 : Sx :=
  (sFor (iL (eOp gAdd (eVar 9) (eLst (aCons (eC .non) (aCons (eC (.int 3)) (aCons (eTup (aCons (eC (.str "any")) aNil)) (aCons (eLst (aCons (eC (.str "ranks")) aNil)) (aCons (eMake0 0 initF [.bl false, .bl false, .non]) aNil)))))))) (gNm 8) l_law_4)
abbrev q_law_10 : Sx :=
  (sRet (eC (.bl true)))
def b_law : Sx :=
  (sSeq q_law_0
    (sSeq q_law_1
    (sSeq q_law_2
    (sSeq q_law_3
    (sSeq q_law_4
    (sSeq q_law_5
    (sSeq q_law_6
    (sSeq q_law_7
    (sSeq q_law_8
    (sSeq q_law_9
    q_law_10))))))))))
theorem ok_law {P : Program} {w : World} {K : Kt} {mg : Str → Option Value} {base : Heap} (T : Tx K mg) (d_box : Def P w K mg base "_law_box" s_box 1 ["_law_script", "_law_k"] boxF) (d_take : Def P w K mg base "_law_take" s_take 1 ["_law_box_here", "_law_many"] takeF) (m_Turns : DefCX P w K mg base "Turns" 0 3 ["self", "ranked", "lent", "fair"] initF (PhiT K)) (d_told : Def P w K mg base "_law_told" s_told 1 ["_law_ranked", "_law_lent", "_law_fair"] toldF) (o_str : DefM P w K mg base 0 "__str__" 1 ["self"] strF) (o_eq : DefM P w K mg base 0 "__eq__" 4 ["self", "other"] eqF) (k_read : DefCM P w K mg base "Turns" 0 "read" 5 ["cls", "text"] readF) (d_heard : Def P w K mg base "_law_heard" s_heard 5 ["_law_ranked", "_law_lent", "_law_fair"] heardF) (d_pick : Def P w K mg base "_law_pick" s_pick 2 ["_law_box_here", "_law_some"] pickF) (d_lread : Def P w K mg base "_law_read" s_lread 6 ["_law_thing"] lreadF) {f : Addr} {fd : FuncData} (Fu : Fun K.K "law" "law" s_law f fd) : AtC P w K.K mg base (L2.CX P w) 8 f fd ["_law_script"] (spF K 1 (runF 10 b_law)) := by
  refine lawV Fu sc_law ?_
  rintro G rfl cdv s H E hr
  have hgd : (callerA.deeper (envOfC "law" (defScope s_law) s.heap.objs.size f cdv)).guards = some [] := rfl
  have hr66 : (callerA.deeper (envOfC "law" (defScope s_law) s.heap.objs.size f cdv)).units + 66 < cLine := by have := hr.un; omega
  exact (ds_cons (ds_set (i := 1) sc_law.nd (de_callDA d_box rfl (takes_of rfl rfl rfl rfl) (hr.mono (by decide)) (da_cons (de_var (pv 0)) (da_cons de_int da_nil)) (alen_cons (alen_cons alen_nil))))
    (ds_cons (ds_for (passes_of rfl) rfl (di_tup rfl (de_tup (da_cons (de_tup (da_cons de_bl (da_cons de_bl da_nil))) (da_cons (de_tup (da_cons de_bl (da_cons de_bl da_nil))) (da_cons (de_tup (da_cons de_bl (da_cons de_bl da_nil))) da_nil))))) (dg_tup rfl rfl (dgs_cons (dg_name (i := 2) sc_law.nd) (dgs_cons (dg_name (i := 3) sc_law.nd) dgs_nil))) (ds_one (ds_for (passes_of rfl) rfl (di_tup rfl (de_tup (da_cons de_non (da_cons de_int (da_cons (de_add rfl de_int (de_callD 1 d_take rfl (takes_of rfl rfl rfl rfl) (hr.mono (by decide)) (da_cons (de_var (pv 1)) (da_cons de_int da_nil)) (alen_cons (alen_cons alen_nil)))) da_nil))))) (dg_name (i := 4) sc_law.nd) (ds_cons (ds_par (i := 5) (j := 6) rfl sc_law.nd (da_cons (de_makeD m_Turns.toC rfl flatE (takes_of rfl rfl rfl rfl) (hr.mono (by decide)) (da_cons (de_var (pv 2)) (da_cons (de_var (pv 3)) (da_cons (de_var (pv 4)) da_nil))) (alen_cons (alen_cons (alen_cons alen_nil))) rfl) (da_cons (de_callD 0 d_told rfl (takes_of rfl rfl rfl rfl) (hr.mono (by decide)) (da_cons (de_var (pv 2)) (da_cons (de_var (pv 3)) (da_cons (de_var (pv 4)) da_nil))) (alen_cons (alen_cons (alen_cons alen_nil)))) da_nil)) (by decide))
    (ds_cons (ds_if (dt_ne rfl hr.units (de_repr rfl hgd hr66 rfl T.b_repr (da_cons (de_lst (da_cons (de_fld rfl T.f_Turns_ranked (de_var (pv 5))) (da_cons (de_fld rfl T.f_Turns_lent (de_var (pv 5))) (da_cons (de_fld rfl T.f_Turns_fair (de_var (pv 5))) (da_cons (de_strObj o_str rfl rfl flatE (takes_of rfl rfl rfl rfl) (hr.mono (by decide)) rfl T.b_str (da_cons (de_var (pv 5)) da_nil)) da_nil))))) da_nil)) (de_repr rfl hgd hr66 rfl T.b_repr (da_cons (de_lst (da_cons (de_var (pv 2)) (da_cons (de_var (pv 3)) (da_cons (de_var (pv 4)) (da_cons (de_var (pv 6)) da_nil))))) da_nil))) (ds_one (ds_ret de_bl)) ds_nil)
    (ds_cons (ds_if (dt_w (dw_or (dt_neO o_eq rfl T.eq_Turns rfl flatE (takes_of rfl rfl rfl rfl) (hr.mono (by decide)) (de_cmethD 0 k_read rfl flatE (takes_of rfl rfl rfl rfl) (hr.mono (by decide)) (da_cons (de_var (pv 6)) da_nil) (alen_s rfl (alen_cons alen_nil))) (de_var (pv 5))) (dw_or (dt_eqO o_eq rfl T.eq_Turns rfl flatE (takes_of rfl rfl rfl rfl) (hr.mono (by decide)) (de_var (pv 5)) (de_var (pv 6))) (dw_or1 (dt_eqO o_eq rfl T.eq_Turns rfl flatE (takes_of rfl rfl rfl rfl) (hr.mono (by decide)) (de_var (pv 5)) (de_makeD m_Turns.toC rfl flatE (takes_of rfl rfl rfl rfl) (hr.mono (by decide)) (da_cons (de_var (pv 2)) (da_cons (de_var (pv 3)) (da_cons de_int da_nil))) (alen_cons (alen_cons (alen_cons alen_nil))) rfl)))))) (ds_one (ds_ret de_bl)) ds_nil)
    (ds_one (ds_if (dt_neO o_eq rfl T.eq_Turns rfl flatE (takes_of rfl rfl rfl rfl) (hr.mono (by decide)) (de_var (pv 5)) (de_makeKD (ks := ["fair", "lent", "ranked"]) [2, 1, 0] m_Turns (fun _ h => h.1) rfl flatE (takes_of rfl rfl rfl rfl) (hr.mono (by decide)) (dk_cons (de_var (pv 4)) (dk_cons (de_var (pv 3)) (dk_cons (de_var (pv 2)) dk_nil))) (alen_cons (alen_cons (alen_cons alen_nil))) (by decide) rfl)) (ds_one (ds_ret de_bl)) ds_nil))))))))
    (ds_cons (ds_if (dt_w (dw_or (dt_ne rfl hr.units (de_strObj o_str rfl rfl flatE (takes_of rfl rfl rfl rfl) (hr.mono (by decide)) rfl T.b_str (da_cons (de_make0D m_Turns (fun _ h => h.2) rfl flatE (takes_of rfl rfl rfl rfl) (hr.mono (by decide)) rfl) da_nil)) de_str) (dw_or1 (dt_neO o_eq rfl T.eq_Turns rfl flatE (takes_of rfl rfl rfl rfl) (hr.mono (by decide)) (de_make0D m_Turns (fun _ h => h.2) rfl flatE (takes_of rfl rfl rfl rfl) (hr.mono (by decide)) rfl) (de_makeD m_Turns.toC rfl flatE (takes_of rfl rfl rfl rfl) (hr.mono (by decide)) (da_cons de_bl (da_cons de_bl (da_cons de_non da_nil))) (alen_cons (alen_cons (alen_cons alen_nil))) rfl))))) (ds_one (ds_ret de_bl)) ds_nil)
    (ds_cons (ds_set (i := 7) sc_law.nd (de_lst (da_cons de_non (da_cons de_int (da_cons de_int (da_cons de_str (da_cons (de_tup da_nil) (da_cons (de_lst (da_cons de_bl da_nil)) da_nil))))))))
    (ds_cons (ds_for (passes_of rfl) rfl (di_list rfl (de_var (pv 7))) (dg_name (i := 8) sc_law.nd) (ds_one (ds_if (dt_w (dw_or (dt_ne rfl hr.units (de_callD 0 d_heard rfl (takes_of rfl rfl rfl rfl) (hr.mono (by decide)) (da_cons (de_var (pv 8)) (da_cons (de_var (pv 8)) (da_cons (de_var (pv 8)) da_nil))) (alen_cons (alen_cons (alen_cons alen_nil)))) de_str) (dw_or1 (dt_ne rfl hr.units (de_callD 0 d_heard rfl (takes_of rfl rfl rfl rfl) (hr.mono (by decide)) (da_cons de_bl (da_cons (de_var (pv 8)) (da_cons de_int da_nil))) (alen_cons (alen_cons (alen_cons alen_nil)))) de_str)))) (ds_one (ds_ret de_bl)) ds_nil)))
    (ds_cons (ds_for (passes_of rfl) rfl (di_list rfl (de_lst (da_cons de_str (da_cons de_int (da_cons (de_sub de_int de_int) (da_cons de_bl (da_cons de_bl (da_cons (de_tup (da_cons de_int da_nil)) (da_cons (de_lst (da_cons de_int da_nil)) da_nil))))))))) (dg_name (i := 8) sc_law.nd) (ds_one (ds_if (dt_ne rfl hr.units (de_callD 0 d_heard rfl (takes_of rfl rfl rfl rfl) (hr.mono (by decide)) (da_cons de_bl (da_cons (de_callD 1 d_pick rfl (takes_of rfl rfl rfl rfl) (hr.mono (by decide)) (da_cons (de_var (pv 1)) (da_cons (de_lst (da_cons de_bl (da_cons de_bl da_nil))) da_nil)) (alen_cons (alen_cons alen_nil))) (da_cons (de_var (pv 8)) da_nil))) (alen_cons (alen_cons (alen_cons alen_nil)))) de_str) (ds_one (ds_ret de_bl)) ds_nil)))
    (ds_cons (ds_if (dt_w (dw_or (dt_ne rfl hr.units (de_callD 0 d_heard rfl (takes_of rfl rfl rfl rfl) (hr.mono (by decide)) (da_cons de_bl (da_cons de_bl (da_cons de_int da_nil))) (alen_cons (alen_cons (alen_cons alen_nil)))) de_str) (dw_or1 (dt_ne rfl hr.units (de_callD 0 d_heard rfl (takes_of rfl rfl rfl rfl) (hr.mono (by decide)) (da_cons de_bl (da_cons de_bl (da_cons de_int da_nil))) (alen_cons (alen_cons (alen_cons alen_nil)))) de_str)))) (ds_one (ds_ret de_bl)) ds_nil)
    (ds_cons (ds_set (i := 9) sc_law.nd (de_lst (da_cons de_str (da_cons de_str (da_cons de_str (da_cons de_str (da_cons de_str (da_cons de_str (da_cons de_str (da_cons de_str (da_cons de_str (da_cons de_str da_nil))))))))))))
    (ds_cons (ds_set (i := 9) sc_law.nd (de_add rfl (de_var (pv 9)) (de_lst (da_cons de_str (da_cons de_str (da_cons de_str (da_cons de_str (da_cons de_str (da_cons de_str (da_cons de_str (da_cons de_str (da_cons de_str da_nil))))))))))))
    (ds_cons (ds_for (passes_of rfl) rfl (di_list rfl (de_add rfl (de_var (pv 9)) (de_lst (da_cons de_non (da_cons de_int (da_cons (de_tup (da_cons de_str da_nil)) (da_cons (de_lst (da_cons de_str da_nil)) (da_cons (de_make0D m_Turns (fun _ h => h.2) rfl flatE (takes_of rfl rfl rfl rfl) (hr.mono (by decide)) rfl) da_nil)))))))) (dg_name (i := 8) sc_law.nd) (ds_one (ds_if (dt_ne rfl hr.units (de_repr rfl hgd hr66 rfl T.b_repr (da_cons (de_callD 0 d_lread rfl (takes_of rfl rfl rfl rfl) (hr.mono (by decide)) (da_cons (de_var (pv 8)) da_nil) (alen_cons alen_nil)) da_nil)) de_str) (ds_one (ds_ret de_bl)) ds_nil)))
    (ds_one (ds_ret de_bl))))))))))))
abbrev s_x_InvalidTurns : Stmt := inClass (topS 2) 0
theorem mkx_InvalidTurns {P : Program} {w : World} {K : Kt} {mg : Str → Option Value} {base : Heap} {f cc cda : Addr} {kV doc pm ct oc cl ccl : Value} {an od cld cdd : Option Addr} {osl csl ccs : Array (Option Value)} {vs0 : Array Value} {file : Str} {tf : Tok}
    (lk : K.K.lookup f = some ⟨oc, od, .func (PySem.W.ksFn "__init__" "InvalidTurns.__init__" (defArgs s_x_InvalidTurns) (defBody s_x_InvalidTurns) (defScope s_x_InvalidTurns) .none kV doc pm an (.ref cda) ct cc), osl⟩) (hcd : PySem.W.codeIn K.K (.ref cda) "InvalidTurns.__init__" = true) (hcode : K.K.lookup cda = some ⟨ccl, cdd, .fields vs0, ccs⟩) (hvs : vs0[2]? = some (.str file tf)) (hfile : ((P.main.file : Str) == file) = true) (hcell : K.K.lookup cc = some ⟨cl, cld, .cell (some (.ref (K.κ 1))), csl⟩)
    (T : OexC K.K (K.κ 1)) (no : PySem.W.findIn K.K (.ref (K.κ 1)) "word" = some none) (sup : PySem.W.ks_superIn K.K (K.κ 1) (K.κ 1) "__init__" = some (some (.builtin "ValueError.__init__"))) (mro : PySem.W.mroIn K.K (K.κ 1) (.ref (K.κ 1)) = some true) (ve : PySem.W.subIn K.K (.ref (K.κ 1)) (.type "ValueError") = some true) (any : PySem.W.nsIn K.K cStatics "thirdparty.any" = some none) (ms : mg "super" = none) (top : (P.main.scope.names.lookup ("super" : Str)).isSome = false)
    (hm : mg "InvalidTurns" = some (.ref (K.κ 1))) (hi : PySem.W.findIn K.K (.ref (K.κ 1)) "__init__" = some (some (.ref f))) (ht : PySem.W.typeIn K.K (.ref f) = some (.type "function")) : Xc P w K mg base "InvalidTurns" 1 "word" :=
  xc_of (par := "word") lk hcd hcode hvs hfile hcell T no sup mro ve any ms top hm hi ht rfl (fun env => ⟨_, rfl⟩) rfl rfl rfl rfl rfl rfl rfl (by decide +kernel) rfl rfl (by decide) (by decide) (fun us hl => match us, hl with | [_, _], _ => rfl)
abbrev s_x_InvalidText : Stmt := inClass (topS 3) 0
theorem mkx_InvalidText {P : Program} {w : World} {K : Kt} {mg : Str → Option Value} {base : Heap} {f cc cda : Addr} {kV doc pm ct oc cl ccl : Value} {an od cld cdd : Option Addr} {osl csl ccs : Array (Option Value)} {vs0 : Array Value} {file : Str} {tf : Tok}
    (lk : K.K.lookup f = some ⟨oc, od, .func (PySem.W.ksFn "__init__" "InvalidText.__init__" (defArgs s_x_InvalidText) (defBody s_x_InvalidText) (defScope s_x_InvalidText) .none kV doc pm an (.ref cda) ct cc), osl⟩) (hcd : PySem.W.codeIn K.K (.ref cda) "InvalidText.__init__" = true) (hcode : K.K.lookup cda = some ⟨ccl, cdd, .fields vs0, ccs⟩) (hvs : vs0[2]? = some (.str file tf)) (hfile : ((P.main.file : Str) == file) = true) (hcell : K.K.lookup cc = some ⟨cl, cld, .cell (some (.ref (K.κ 2))), csl⟩)
    (T : OexC K.K (K.κ 2)) (no : PySem.W.findIn K.K (.ref (K.κ 2)) "at" = some none) (sup : PySem.W.ks_superIn K.K (K.κ 2) (K.κ 2) "__init__" = some (some (.builtin "ValueError.__init__"))) (mro : PySem.W.mroIn K.K (K.κ 2) (.ref (K.κ 2)) = some true) (ve : PySem.W.subIn K.K (.ref (K.κ 2)) (.type "ValueError") = some true) (any : PySem.W.nsIn K.K cStatics "thirdparty.any" = some none) (ms : mg "super" = none) (top : (P.main.scope.names.lookup ("super" : Str)).isSome = false)
    (hm : mg "InvalidText" = some (.ref (K.κ 2))) (hi : PySem.W.findIn K.K (.ref (K.κ 2)) "__init__" = some (some (.ref f))) (ht : PySem.W.typeIn K.K (.ref f) = some (.type "function")) : Xc P w K mg base "InvalidText" 2 "at" :=
  xc_of (par := "at") lk hcd hcode hvs hfile hcell T no sup mro ve any ms top hm hi ht rfl (fun env => ⟨_, rfl⟩) rfl rfl rfl rfl rfl rfl rfl (by decide +kernel) rfl rfl (by decide) (by decide) (fun us hl => match us, hl with | [_, _], _ => rfl)
end K66

namespace K66
open PySem L2 PyProof.Rows VL
abbrev bx (g s : Int) : List Cell := [.lst [.int g, .int s]]
theorem take_ok (g s : Int) (m : Nat) (h0 : 0 < m) (h1 : m < 1073741824) : ∃ (v : Nat) (g' s' : Int), takeF [.loc 0, .int m] (bx g s) = .ok (.int v) (bx g' s') ∧ v < m := by
  have h0' : (0 : Int) < m := by omega
  have h1' : (m : Int) < 1073741824 := by omega
  have c1 : ∀ x, cMod x m = true := fun x => by simp [cMod]; omega
  have c2 : cDiv g m = true := by simp [cDiv]; omega
  have c3 : ∀ x, cMod x 2147483563 = true := fun x => rfl
  have c4 : ∀ x, cMod x 2147483629 = true := fun x => rfl
  have c5 : ∀ x, cDiv x 8191 = true := fun x => rfl
  have fin : ∀ x : Int, D.int ((x % m).toNat : Nat) = .int (x % m) := fun x => by
    rw [Int.toNat_of_nonneg (Int.emod_nonneg _ (by omega))]
  have lt : ∀ x : Int, (x % m).toNat < m := fun x => by
    have := Int.emod_lt_of_pos x h0'
    have := Int.emod_nonneg x (b := m) (by omega)
    omega
  by_cases hg : 0 < g
  · refine ⟨(g % m).toNat, g / m, s, ?_, lt _⟩
    rw [fin]
    simp [takeF, trimF, runF, b_take, sSeq, sIf, tCmp', eOp, eVar, eC, thenS, Out.bind, gGt, gOrd, gIx, seqOf, lstOf, startD, atI, ixN, hg, sAsg, gMod, gInt, eB, aCons, aNil, hInt, asg, gNm, c1, c2, sSetIx, setIx, gFdiv, sRet, outD, below, belowC, belows]
  · refine ⟨((((s * 40014 + 73) % 2147483563 * 2147483647 + (((s * 40014 + 73) % 2147483563 * 40692 + 4513) % 2147483629 + 1)) / 8191) % m).toNat, g, ((s * 40014 + 73) % 2147483563 * 40692 + 4513) % 2147483629 + 1, ?_, lt _⟩
    rw [fin]
    simp [takeF, trimF, runF, b_take, sSeq, sIf, tCmp', eOp, eVar, eC, thenS, Out.bind, gGt, gOrd, gIx, seqOf, lstOf, startD, atI, ixN, hg, sAsg, gMod, gInt, eB, aCons, aNil, hInt, asg, gNm, c1, c2, sSetIx, setIx, gFdiv, sRet, outD, below, belowC, belows, gAdd, gMul, cMul, sNil, c3, c4, c5]
theorem box_ok (ns : List Int) : ∃ g s, boxF [.frl (ns.map D.int), .int 0] [] = .ok (.loc 0) (bx g s) := by
  have c4 : ∀ x, cMod x 2147483629 = true := fun x => rfl
  have c5 : cPow 10 18 = true := by decide
  cases ns with
  | nil =>
    refine ⟨0, 8350884, ?_⟩
    simp [boxF, runF, b_box, startD, sSeq, sAsg, eOp, eC, eVar, Out.bind, gMul, cMul, gAdd, thenS, asg, gNm, sIf, tCmp', eB, aCons, aNil, hLen, seqOf, lstOf, gLt, gOrd, gGt, sNil, eIf, gGe, gPow, gInt, c5, sRet, eLoc, hInt, gMod, c4, newCell]
  | cons n ns =>
    obtain ⟨m, hm⟩ : ∃ m : Int, (if n < 0 then -n else n) = m := ⟨_, rfl⟩
    by_cases q : (1000000000000000000 : Int) ≤ m
    · refine ⟨m, m % 2147483629 * 48271 % 2147483629 + 1, ?_⟩
      simp [boxF, runF, b_box, startD, sSeq, sAsg, eOp, eC, eVar, Out.bind, gMul, cMul, gAdd, thenS, asg, gNm, sIf, tCmp', eB, aCons, aNil, hLen, seqOf, lstOf, gLt, gOrd, gGt, sNil, eIf, gGe, gPow, gInt, c5, sRet, eLoc, hInt, gMod, c4, newCell, hAbs, gIx, atI, ixN, hm, q]
    · refine ⟨0, m % 2147483629 * 48271 % 2147483629 + 1, ?_⟩
      simp [boxF, runF, b_box, startD, sSeq, sAsg, eOp, eC, eVar, Out.bind, gMul, cMul, gAdd, thenS, asg, gNm, sIf, tCmp', eB, aCons, aNil, hLen, seqOf, lstOf, gLt, gOrd, gGt, sNil, eIf, gGe, gPow, gInt, c5, sRet, eLoc, hInt, gMod, c4, newCell, hAbs, gIx, atI, ixN, hm, q]
theorem draw_ok (g s : Int) (m : Nat) (h0 : 0 < m) (h1 : m < 1073741824) (rest : List Cell) : ∃ (v : Nat) (g' s' : Int), callV 1 takeF [.loc 0, .int m] (bx g s ++ rest) = .ok (.int v) (bx g' s' ++ rest) ∧ v < m := by
  obtain ⟨v, g', s', e, hv⟩ := take_ok g s m h0 h1
  refine ⟨v, g', s', ?_, hv⟩
  unfold callV
  rw [show [D.loc 0, .int m].map (lendD 1 (bx g s ++ rest)) = [.loc 0, .int m] from rfl, show (bx g s ++ rest).take 1 = bx g s from rfl, if_pos ⟨by simp, rfl, rfl⟩, e]
  rfl
theorem drawE {env : List (Option D)} {rest : List Cell} {g s : Int} {m : Nat} {i : Nat} {f : Ex} (h1 : env[i]? = some (some (.loc 0))) (hf : f ⟨env, bx g s ++ rest⟩ = .ok (.int m) (bx g s ++ rest)) (h0 : 0 < m) (h2 : m < 1073741824) : ∃ (v : Nat) (g' s' : Int), eCall 1 takeF (aCons (eVar i) (aCons f aNil)) ⟨env, bx g s ++ rest⟩ = .ok (.int v) (bx g' s' ++ rest) ∧ v < m := by
  obtain ⟨v, g', s', e, hv⟩ := draw_ok g s m h0 h2 rest
  refine ⟨v, g', s', ?_, hv⟩
  have v1 : eVar i ⟨env, bx g s ++ rest⟩ = .ok (.loc 0) (bx g s ++ rest) := by
    unfold eVar
    simp [h1]
  exact ev_eCall (ev_aCons v1 (ev_aCons hf rfl)) e
theorem pick_ok (g s : Int) (ds : List D) (h0 : ds ≠ []) (h1 : ds.length < 1073741824) (hb : belows 1 ds = true) (hn : ∀ d ∈ ds, ∀ m, d ≠ .loc m) : ∃ (d : D) (g' s' : Int), callV 1 pickF [.loc 0, .lst ds] (bx g s) = .ok d (bx g' s') ∧ d ∈ ds := by
  obtain ⟨v, g', s', e, hv⟩ := draw_ok g s ds.length (by cases ds with
    | nil => exact absurd rfl h0
    | cons x l => simp) h1 []
  refine ⟨ds[v], g', s', ?_, List.getElem_mem hv⟩
  have ev : eOp gIx (eVar 1) (eCall 1 takeF (aCons (eVar 0) (aCons (eB hLen (aCons (eVar 1) aNil)) aNil))) ⟨[some (.loc 0), some (.lst ds)], bx g s⟩ = .ok ds[v] (bx g' s') := by
    refine ev_eOp (x := .lst ds) (y := .int v) (c1 := bx g s) (c2 := bx g' s') rfl e (ix_lst (VL.atI_nat ?_))
    simp [hv]
  have hm : ds[v] ∈ ds := List.getElem_mem hv
  have hbv : below 1 ds[v] = true := by
    rw [belows_all, List.all_eq_true] at hb
    exact hb _ hm
  have p : pickF [.loc 0, .lst ds] (bx g s) = .ok ds[v] (bx g' s') := trimF_of (cs' := bx g' s') (ev_runRt (env := [some (.loc 0), some (.lst ds)]) rfl (ev_sRet ev)) rfl (outD_low hbv (hn _ hm))
  have hb2 : belows 1 [.loc 0, .lst ds] = true := by simp [belows, below, hb]
  unfold callV
  rw [show [D.loc 0, .lst ds].map (lendD 1 (bx g s)) = [.loc 0, .lst ds] from rfl, show (bx g s).take 1 = bx g s from rfl, if_pos ⟨by simp, hb2, rfl⟩, p]
  show (if _ then Out.ok ds[v] (bx g' s' ++ []) else Out.no) = _
  rw [if_pos ⟨rfl, .inl hb2⟩]
  rfl
abbrev envL (d0 : D) (a b : Bool) (e4 e5 e6 : Option D) : List (Option D) := [some d0, some (.loc 0), some (.bl a), some (.bl b), e4, e5, e6, none, none, none]
def fairs : List D := .non :: (List.range 90).map fun k : Nat => .int (1 + (k : Int))
abbrev ob (a b : Bool) (f : D) : D := .obj 0 ["ranked", "lent", "fair"] [.bl a, .bl b, f]
def numS : D → Str
  | .int i => toString i
  | _ => ""
/-- the text of turns -/
def lineS (a b : Bool) (f : D) : Str := match toldF [.bl a, .bl b, f] [] with
  | .ok (.str x) _ => x
  | _ => ""
def tbL (a b : Bool) (f : D) : List (Out D) × List Bool := ([toldF [.bl a, .bl b, f] [], strF [ob a b f] [], readF [.cls 0, .str (lineS a b f)] []], [showOk (.lst [.bl a, .bl b, f, .str (lineS a b f)]), PyData.eqv (.str (lineS a b f)) (.str (lineS a b (.int 95))), belows 0 [ob a b f], PyData.strOk (lineS a b f), PyData.strOk (py (.lst [.bl a, .bl b, f, .str (lineS a b f)])).shown])
def tbR (a b : Bool) (f : D) : List (Out D) × List Bool := ([.ok (.str (lineS a b f)) [], .ok (.str (lineS a b f)) [], .ok (ob a b f) []], [true, false, true, true, true])
def mkL (a b : Bool) (f : D) : Int → Int → Out D := fun g s => makeD 0 initF [.bl a, .bl b, f] (bx g s)
def mkR (a b : Bool) (f : D) : Int → Int → Out D := fun g s => .ok (ob a b f) (bx g s)
theorem mk_0 : fairs.map (mkL false false) = fairs.map (mkR false false) := by kernel_rfl
theorem mk_1 : fairs.map (mkL true false) = fairs.map (mkR true false) := by kernel_rfl
theorem mk_2 : fairs.map (mkL true true) = fairs.map (mkR true true) := by kernel_rfl
theorem tb_0_0 : ((fairs.drop 0).take 23).map (tbL false false) = ((fairs.drop 0).take 23).map (tbR false false) := by kernel_rfl
theorem tb_0_1 : ((fairs.drop 23).take 23).map (tbL false false) = ((fairs.drop 23).take 23).map (tbR false false) := by kernel_rfl
theorem tb_0_2 : ((fairs.drop 46).take 23).map (tbL false false) = ((fairs.drop 46).take 23).map (tbR false false) := by kernel_rfl
theorem tb_0_3 : ((fairs.drop 69).take 23).map (tbL false false) = ((fairs.drop 69).take 23).map (tbR false false) := by kernel_rfl
theorem tb_1_0 : ((fairs.drop 0).take 23).map (tbL true false) = ((fairs.drop 0).take 23).map (tbR true false) := by kernel_rfl
theorem tb_1_1 : ((fairs.drop 23).take 23).map (tbL true false) = ((fairs.drop 23).take 23).map (tbR true false) := by kernel_rfl
theorem tb_1_2 : ((fairs.drop 46).take 23).map (tbL true false) = ((fairs.drop 46).take 23).map (tbR true false) := by kernel_rfl
theorem tb_1_3 : ((fairs.drop 69).take 23).map (tbL true false) = ((fairs.drop 69).take 23).map (tbR true false) := by kernel_rfl
theorem tb_2_0 : ((fairs.drop 0).take 23).map (tbL true true) = ((fairs.drop 0).take 23).map (tbR true true) := by kernel_rfl
theorem tb_2_1 : ((fairs.drop 23).take 23).map (tbL true true) = ((fairs.drop 23).take 23).map (tbR true true) := by kernel_rfl
theorem tb_2_2 : ((fairs.drop 46).take 23).map (tbL true true) = ((fairs.drop 46).take 23).map (tbR true true) := by kernel_rfl
theorem tb_2_3 : ((fairs.drop 69).take 23).map (tbL true true) = ((fairs.drop 69).take 23).map (tbR true true) := by kernel_rfl
theorem fairs_cut {f : D} (h : f ∈ fairs) : f ∈ (fairs.drop 0).take 23 ∨ f ∈ (fairs.drop 23).take 23 ∨ f ∈ (fairs.drop 46).take 23 ∨ f ∈ (fairs.drop 69).take 23 := by
  have e : fairs = (fairs.drop 0).take 23 ++ ((fairs.drop 23).take 23 ++ ((fairs.drop 46).take 23 ++ (fairs.drop 69).take 23)) := rfl
  rw [e] at h
  simpa only [List.mem_append] using h
structure Pr (a b : Bool) : Prop where
  tb : ∀ f ∈ fairs, tbL a b f = tbR a b f
  mkk : fairs.map (mkL a b) = fairs.map (mkR a b)
  o95 : PyData.strOk (lineS a b (.int 95)) = true
  s95 : strF [ob a b (.int 95)] [] = .ok (.str (lineS a b (.int 95))) []
  m95 : ∀ g s : Int, makeD 0 initF [.bl a, .bl b, .int 95] (bx g s) = .ok (ob a b (.int 95)) (bx g s)
theorem pr_of {a b : Bool} (h0 : ((fairs.drop 0).take 23).map (tbL a b) = ((fairs.drop 0).take 23).map (tbR a b)) (h1 : ((fairs.drop 23).take 23).map (tbL a b) = ((fairs.drop 23).take 23).map (tbR a b)) (h2 : ((fairs.drop 46).take 23).map (tbL a b) = ((fairs.drop 46).take 23).map (tbR a b)) (h3 : ((fairs.drop 69).take 23).map (tbL a b) = ((fairs.drop 69).take 23).map (tbR a b)) (hm : fairs.map (mkL a b) = fairs.map (mkR a b)) (o5 : PyData.strOk (lineS a b (.int 95)) = true) (s5 : strF [ob a b (.int 95)] [] = .ok (.str (lineS a b (.int 95))) []) (m5 : ∀ g s : Int, makeD 0 initF [.bl a, .bl b, .int 95] (bx g s) = .ok (ob a b (.int 95)) (bx g s)) : Pr a b := by
  refine ⟨?_, hm, o5, s5, m5⟩
  intro f hf
  rcases fairs_cut hf with h | h | h | h
  · exact map_at h0 h
  · exact map_at h1 h
  · exact map_at h2 h
  · exact map_at h3 h
theorem in1 : Pr false false := pr_of tb_0_0 tb_0_1 tb_0_2 tb_0_3 mk_0 (by kernel_rfl) (by kernel_rfl) (fun g s => by kernel_rfl)
theorem in2 : Pr true false := pr_of tb_1_0 tb_1_1 tb_1_2 tb_1_3 mk_1 (by kernel_rfl) (by kernel_rfl) (fun g s => by kernel_rfl)
theorem in3 : Pr true true := pr_of tb_2_0 tb_2_1 tb_2_2 tb_2_3 mk_2 (by kernel_rfl) (by kernel_rfl) (fun g s => by kernel_rfl)
section
variable {a b : Bool} {f : D}
structure At (a b : Bool) (f : D) (x : Str) : Prop where
  told : toldF [.bl a, .bl b, f] [] = .ok (.str x) []
  str : strF [ob a b f] [] = .ok (.str x) []
  read : readF [.cls 0, .str x] [] = .ok (ob a b f) []
  show' : showOk (.lst [.bl a, .bl b, f, .str x]) = true
  low : belows 0 [ob a b f] = true
  ok1 : PyData.strOk x = true
  ok2 : PyData.strOk (py (.lst [.bl a, .bl b, f, .str x])).shown = true
  far : PyData.eqv (.str x) (.str (lineS a b (.int 95))) = false
theorem at_of (h : Pr a b) (hf : f ∈ fairs) : At a b f (lineS a b f) := by
  have e := h.tb f hf
  unfold tbL tbR at e
  simp only [Prod.mk.injEq, List.cons.injEq] at e
  exact ⟨e.1.1, e.1.2.1, e.1.2.2.1, e.2.1, e.2.2.2.1, e.2.2.2.2.1, e.2.2.2.2.2.1, e.2.2.1⟩
theorem mk_at (h : Pr a b) (hf : f ∈ fairs) (g s : Int) : makeD 0 initF [.bl a, .bl b, f] (bx g s) = .ok (ob a b f) (bx g s) := congrFun (congrFun (map_at (f := mkL a b) (g := mkR a b) h.mkk hf) g) s
theorem fair_plain (hf : f ∈ fairs) : f = .non ∨ ∃ i, f = .int i := by
  rcases List.mem_cons.mp hf with h | h
  · exact .inl h
  · obtain ⟨k, _, rfl⟩ := List.mem_map.mp h
    exact .inr ⟨_, rfl⟩
variable {x y : Str} {cs : List Cell} {neg : Bool}
theorem eqS (hx : PyData.strOk x = true) (hy : PyData.strOk y = true) : gEqB neg cs (.str x) (.str y) = .ok (.bl (if neg then !PyData.eqv (.str x) (.str y) else PyData.eqv (.str x) (.str y))) cs := by
  have e : ∀ {z : Str}, PyData.strOk z = true → SeqAt.shaped (.str z) = true := fun {z} h => by
    unfold SeqAt.shaped
    rw [show (PyData.str z).canLay0 = PyData.strOk z by simp [PyData.canLay0], h]
    rfl
  have e1 : plain (.str x) = true := by simp [VL.plain]
  have e2 : plain (.str y) = true := by simp [VL.plain]
  have e3 : py (.str x) = .str x := by simp [py]
  have e4 : py (.str y) = .str y := by simp [py]
  simp only [gEqB, norm, e1, e2, e3, e4, e hx, e hy, Bool.and_self, if_true]
theorem eqvSame (hx : PyData.strOk x = true) : PyData.eqv (.str x) (.str x) = true := SeqAt.eqv_refl _ (by simpa [PyData.canLay0] using hx)
theorem eqSame (hx : PyData.strOk x = true) : gEqB true cs (.str x) (.str x) = .ok (.bl false) cs := by
  rw [eqS hx hx, eqvSame hx]
  rfl
theorem str_at {f : D} (hS : strF [ob a b f] [] = .ok (.str x) []) (hb : belows 0 [ob a b f] = true) : hStrO 0 strF cs [ob a b f] = .ok (.str x) cs := by
  have e : callV 0 strF [ob a b f] cs = .ok (.str x) cs := callV0_of rfl hb hS
  unfold hStrO
  simp only [if_true, e]
  rfl
theorem isO {c' : List D} : gIsiG (ansO 0) cs (.obj 0 ["ranked", "lent", "fair"] c') = .ok (.bl true) cs := by kernel_rfl
theorem eq_at {f f' : D} (h1 : strF [ob a b f] [] = .ok (.str x) []) (h2 : strF [ob a b f'] [] = .ok (.str y) []) (b1 : belows 0 [ob a b f] = true) (b2 : belows 0 [ob a b f'] = true) (hx : PyData.strOk x = true) (hy : PyData.strOk y = true) : eqF [ob a b f, ob a b f'] [] = .ok (.bl (PyData.eqv (.str x) (.str y))) [] :=
  trimF_of (cs' := []) (ev_runRt (env := [some (ob a b f), some (ob a b f')]) (st1 := ⟨[some (ob a b f), some (ob a b f')], []⟩) rfl (ev_sRet (c1 := []) (ev_eAndT (ev_eUn (c1 := []) rfl isO) rfl (ev_eOp (c1 := []) (c2 := []) (ev_eB (c1 := []) (xs := [ob a b f]) rfl (str_at h1 b1)) (ev_eB (c1 := []) (xs := [ob a b f']) rfl (str_at h2 b2)) (eqS hx hy))))) rfl rfl
theorem cmp_at {f f' : D} {k : Bool} (h : eqF [ob a b f, ob a b f'] [] = .ok (.bl k) []) (b1 : belows 0 [ob a b f] = true) (b2 : belows 0 [ob a b f'] = true) : gCmpO neg 0 eqF cs (ob a b f) (ob a b f') = .ok (.bl (if neg then !k else k)) cs := by
  have hb : belows 0 [ob a b f, ob a b f'] = true := by
    simp only [belows, Bool.and_true] at b1 b2 ⊢
    rw [b1, b2]
    rfl
  have e : callV 0 eqF [ob a b f, ob a b f'] cs = .ok (.bl k) cs := callV0_of rfl hb h
  unfold gCmpO
  simp only [beside, beq_self_eq_true, and_self, if_true, e]
  rfl
theorem cmpS {f : D} : gCmpO false 0 eqF cs (ob a b f) (.str x) = (callV 0 eqF [ob a b f, .str x] cs).bind (boolO false) := rfl
theorem eqStr {f : D} : eqF [ob a b f, .str x] [] = .ok (.bl false) [] := by kernel_rfl
theorem fl1 {f : D} : gFldC 0 "ranked" cs (ob a b f) = .ok (.bl a) cs := by kernel_rfl
theorem fl2 {f : D} : gFldC 0 "lent" cs (ob a b f) = .ok (.bl b) cs := by kernel_rfl
theorem fl3 {f : D} : gFldC 0 "fair" cs (ob a b f) = .ok f cs := by kernel_rfl
end
theorem in_ok {a b : Bool} (h : Pr a b) {f : D} (hf : f ∈ fairs) (d0 : D) (e5 e6 : Option D) (g s : Int) : l_law_0 ⟨envL d0 a b (some f) e5 e6, bx g s⟩ = .nx ⟨envL d0 a b (some f) (some (ob a b f)) (some (.str (lineS a b f))), bx g s⟩ := by
  have A := at_of h hf
  generalize lineS a b f = x at A
  have lf : lendD 0 (bx g s) f = f := by rcases fair_plain hf with rfl | ⟨i, rfl⟩ <;> rfl
  have bf : below 0 f = true := by rcases fair_plain hf with rfl | ⟨i, rfl⟩ <;> rfl
  have hm := mk_at h hf g s
  have ht : callV 0 toldF [.bl a, .bl b, f] (bx g s) = .ok (.str x) (bx g s) := callV0_of (by show [_, _, lendD 0 (bx g s) f] = _; rw [lf]; rfl) (by show (true && (true && (below 0 f && true))) = true; rw [bf]; rfl) A.told
  have hr : callV 0 readF [.cls 0, .str x] (bx g s) = .ok (ob a b f) (bx g s) := callV0_of rfl rfl A.read
  have b95 : belows 0 [ob a b (.int 95)] = true := rfl
  have hs := str_at (cs := bx g s) A.str A.low
  have hp : hRepr (bx g s) [.lst [.bl a, .bl b, f, .str x]] = .ok (.str (py (.lst [.bl a, .bl b, f, .str x])).shown) (bx g s) := by
    have e : hRepr (bx g s) [.lst [.bl a, .bl b, f, .str x]] = if showOk (.lst [.bl a, .bl b, f, .str x]) then .ok (.str (py (.lst [.bl a, .bl b, f, .str x])).shown) (bx g s) else .no := rfl
    rw [e, A.show']
    rfl
  have q1 := cmp_at (neg := true) (cs := bx g s) (eq_at A.str A.str A.low A.low A.ok1 A.ok1) A.low A.low
  rw [eqvSame A.ok1] at q1
  have q2 : gCmpO false 0 eqF (bx g s) (ob a b f) (.str x) = .ok (.bl false) (bx g s) := by
    have hb : belows 0 [ob a b f, .str x] = true := by
      have := A.low
      simp only [belows, Bool.and_true] at this ⊢
      rw [this]
      rfl
    rw [cmpS, callV0_of rfl hb eqStr]
    rfl
  have q3 := cmp_at (neg := false) (cs := bx g s) (eq_at A.str h.s95 A.low b95 A.ok1 h.o95) A.low b95
  rw [A.far] at q3
  refine ev_sSeq (ev_sPar (c1 := bx g s) (xs := [ob a b f, .str x]) (ev_aCons (ev_eMake (c1 := bx g s) (xs := [.bl a, .bl b, f]) rfl hm) (ev_aCons (ev_eCall (c1 := bx g s) (xs := [.bl a, .bl b, f]) rfl ht) rfl)) rfl) ?_
  refine ev_sSeq (ev_sIfF (c1 := bx g s) (ev_tCmp (ev_eOp (c1 := bx g s) (c2 := bx g s) (ev_eB (c1 := bx g s) (ev_aCons (c1 := bx g s) (ev_eLst (c1 := bx g s) (ev_aCons (c1 := bx g s) (ev_eUn (c1 := bx g s) rfl fl1) (ev_aCons (c1 := bx g s) (ev_eUn (c1 := bx g s) rfl fl2) (ev_aCons (c1 := bx g s) (ev_eUn (c1 := bx g s) rfl fl3) (ev_aCons (c1 := bx g s) (ev_eB (c1 := bx g s) (xs := [ob a b f]) rfl hs) rfl)))) rfl) rfl) hp)
    (ev_eB (c1 := bx g s) (xs := [.lst [.bl a, .bl b, f, .str x]]) rfl hp) (eqSame A.ok2))) rfl) ?_
  refine ev_sSeq (ev_sIfF (c1 := bx g s) (ev_tOrF (c1 := bx g s) (ev_tCmp (ev_eOp (c1 := bx g s) (c2 := bx g s) (ev_eCMeth (c1 := bx g s) (xs := [.str x]) rfl hr) rfl q1)) (ev_tOrF (c1 := bx g s) (ev_tCmp (ev_eOp (c1 := bx g s) (c2 := bx g s) rfl rfl q2)) (ev_tCmp (ev_eOp (c1 := bx g s) (c2 := bx g s) rfl (ev_eMake (c1 := bx g s) (xs := [.bl a, .bl b, .int 95]) rfl (h.m95 g s)) q3)))) rfl) ?_
  exact ev_sIfF (c1 := bx g s) (ev_tCmp (ev_eOp (c1 := bx g s) (c2 := bx g s) rfl (ev_eMakeK (c1 := bx g s) (xs := [f, .bl b, .bl a]) rfl rfl hm) q1)) rfl
theorem turn {a b : Bool} (h : Pr a b) (d0 : D) (e4 e5 e6 : Option D) (g s : Int) : ∃ e4' e5' e6' g' s', l_law_1 ⟨envL d0 a b e4 e5 e6, bx g s⟩ = .nx ⟨envL d0 a b e4' e5' e6', bx g' s'⟩ := by
  obtain ⟨v, g', s', e, hv⟩ := drawE (rest := []) (env := envL d0 a b e4 e5 e6) (i := 1) (g := g) (s := s) (m := 90) (f := eC (.int 90)) rfl rfl (by decide) (by decide)
  have hx : (.int (1 + (v : Int)) : D) ∈ fairs := List.mem_cons_of_mem _ (List.mem_map.mpr ⟨v, List.mem_range.mpr hv, rfl⟩)
  have h1 : (.int 1 : D) ∈ fairs := List.mem_cons_of_mem _ (List.mem_map.mpr ⟨0, List.mem_range.mpr (by decide), rfl⟩)
  have h0 : (.non : D) ∈ fairs := List.mem_cons_self
  have sum : gAdd (bx g' s') (.int 1) (.int (v : Int)) = .ok (.int (1 + (v : Int))) (bx g' s') := rfl
  exact ⟨_, _, _, _, _, ev_sFor (ev_iT (ev_eTup (ev_aCons (c1 := bx g s) rfl (ev_aCons (c1 := bx g s) rfl (ev_aCons (ev_eOp (c1 := bx g s) rfl e sum) rfl))) rfl) rfl)
    (ev_forNx rfl rfl (in_ok h h0 d0 e5 e6 g' s') (ev_forNx rfl rfl (in_ok h h1 _ _ _ _ _) (ev_forNx rfl rfl (in_ok h hx _ _ _ _ _) (ev_forNil rfl))))⟩
abbrev envM (d0 : D) (e4 e5 e6 e7 e8 e9 : Option D) : List (Option D) := [some d0, some (.loc 0), some (.bl true), some (.bl true), e4, e5, e6, e7, e8, e9]
theorem q1 (d0 : D) (g s : Int) : ∃ e4 e5 e6 g' s', q_law_1 ⟨[some d0, some (.loc 0), none, none, none, none, none, none, none, none], bx g s⟩ = .nx ⟨envM d0 e4 e5 e6 none none none, bx g' s'⟩ := by
  obtain ⟨e4, e5, e6, g1, s1, h1⟩ := turn in1 d0 none none none g s
  obtain ⟨f4, f5, f6, g2, s2, h2⟩ := turn in2 d0 e4 e5 e6 g1 s1
  obtain ⟨k4, k5, k6, g3, s3, h3⟩ := turn in3 d0 f4 f5 f6 g2 s2
  exact ⟨_, _, _, _, _, ev_sFor (w := ([.tup [.bl false, .bl false], .tup [.bl true, .bl false], .tup [.bl true, .bl true]], keepAll)) (c1 := bx g s) rfl (ev_forNx rfl rfl h1 (ev_forNx rfl rfl h2 (ev_forNx rfl rfl h3 (ev_forNil rfl))))⟩
theorem q2 (d0 : D) (e4 e5 e6 e7 e8 e9 : Option D) (g s : Int) : q_law_2 ⟨envM d0 e4 e5 e6 e7 e8 e9, bx g s⟩ = .nx ⟨envM d0 e4 e5 e6 e7 e8 e9, bx g s⟩ := by kernel_rfl
abbrev odd : D := .lst [.non, .int 0, .int 1, .str "ranks", .tup [], .lst [.bl true]]
theorem q3 (d0 : D) (e4 e5 e6 e7 e8 e9 : Option D) (g s : Int) : q_law_3 ⟨envM d0 e4 e5 e6 e7 e8 e9, bx g s⟩ = .nx ⟨envM d0 e4 e5 e6 (some odd) e8 e9, bx g s⟩ := by kernel_rfl
theorem q4 (d0 : D) (e4 e5 e6 e8 e9 : Option D) (g s : Int) : q_law_4 ⟨envM d0 e4 e5 e6 (some odd) e8 e9, bx g s⟩ = .nx ⟨envM d0 e4 e5 e6 (some odd) (some (.lst [.bl true])) e9, bx g s⟩ := by kernel_rfl
abbrev thA : List D := [.str "1", .int 0, .int (0 - 3), .bl true, .bl false, .tup [.int 1], .lst [.int 2]]
def heL (b : Bool) (x : D) : Int → Int → Out D := fun g s => callV 0 heardF [.bl true, .bl b, x] (bx g s)
def heR (b : Bool) (x : D) : Int → Int → Out D := fun g s => .ok (.str "fair") (bx g s)
theorem he1 : thA.map (heL true) = thA.map (heR true) := by kernel_rfl
theorem he2 : thA.map (heL false) = thA.map (heR false) := by kernel_rfl
theorem he_ok (b : Bool) {x : D} (hx : x ∈ thA) (g s : Int) : callV 0 heardF [.bl true, .bl b, x] (bx g s) = .ok (.str "fair") (bx g s) := by
  cases b with
  | true => exact congrFun (congrFun (map_at (f := heL true) (g := heR true) he1 hx) g) s
  | false => exact congrFun (congrFun (map_at (f := heL false) (g := heR false) he2 hx) g) s
theorem eqFair (g s : Int) : gEqB true (bx g s) (.str "fair") (.str "fair") = .ok (.bl false) (bx g s) := by kernel_rfl
theorem pickT {x : D} (hx : x ∈ thA) (d0 : D) (e4 e5 e6 e7 e9 : Option D) (g s : Int) : ∃ g' s', l_law_3 ⟨envM d0 e4 e5 e6 e7 (some x) e9, bx g s⟩ = .nx ⟨envM d0 e4 e5 e6 e7 (some x) e9, bx g' s'⟩ := by
  obtain ⟨d, g', s', e, hd⟩ := pick_ok g s [.bl true, .bl false] (by simp) (by decide) rfl (by
    intro d hd m
    simp only [List.mem_cons, List.not_mem_nil, or_false] at hd
    rcases hd with rfl | rfl <;> exact fun z => by cases z)
  obtain ⟨b, rfl⟩ : ∃ b, d = .bl b := by
    simp only [List.mem_cons, List.not_mem_nil, or_false] at hd
    rcases hd with rfl | rfl
    · exact ⟨_, rfl⟩
    · exact ⟨_, rfl⟩
  exact ⟨g', s', ev_sIfF (ev_tCmp (ev_eOp (ev_eCall (ev_aCons (c1 := bx g s) rfl (ev_aCons (ev_eCall (ev_aCons (c1 := bx g s) rfl (ev_aCons (c1 := bx g s) (x := .lst [.bl true, .bl false]) rfl rfl)) e) (ev_aCons (c1 := bx g' s') rfl rfl))) (he_ok b hx g' s')) rfl (eqFair g' s'))) rfl⟩
theorem q5 (d0 : D) (e4 e5 e6 e7 e8 e9 : Option D) (g s : Int) : ∃ e8' g' s', q_law_5 ⟨envM d0 e4 e5 e6 e7 e8 e9, bx g s⟩ = .nx ⟨envM d0 e4 e5 e6 e7 e8' e9, bx g' s'⟩ := by
  have go : ∀ (l : List D), (∀ x ∈ l, x ∈ thA) → ∀ e8 g s, ∃ e8' g' s', forL (gNm 8) l_law_3 keepAll l ⟨envM d0 e4 e5 e6 e7 e8 e9, bx g s⟩ = .nx ⟨envM d0 e4 e5 e6 e7 e8' e9, bx g' s'⟩ := by
    intro l
    induction l with
    | nil => exact fun _ e8 g s => ⟨e8, g, s, ev_forNil rfl⟩
    | cons x l ih =>
      intro hl e8 g s
      obtain ⟨g1, s1, h1⟩ := pickT (hl x List.mem_cons_self) d0 e4 e5 e6 e7 e9 g s
      obtain ⟨f8, g2, s2, h2⟩ := ih (fun y hy => hl y (List.mem_cons_of_mem _ hy)) (some x) g1 s1
      exact ⟨f8, g2, s2, ev_forNx rfl rfl h1 h2⟩
  obtain ⟨f8, g2, s2, h⟩ := go thA (fun _ h => h) e8 g s
  exact ⟨f8, g2, s2, ev_sFor (w := (thA, keepAll)) (c1 := bx g s) rfl h⟩
theorem q6 (d0 : D) (e4 e5 e6 e7 e8 e9 : Option D) (g s : Int) : q_law_6 ⟨envM d0 e4 e5 e6 e7 e8 e9, bx g s⟩ = .nx ⟨envM d0 e4 e5 e6 e7 e8 e9, bx g s⟩ := by kernel_rfl
abbrev bad1 : List D := [.str "", .str "rank", .str "lent", .str "ranks  lent", .str "any fair 2", .str "fair", .str "fair 0", .str "fair 02", .str "fair 2 ranks", .str "ranks fair"]
abbrev bad2 : List D := [.str "lent ranks", .str "Any", .str " any", .str "any ", .str "fair -1", .str "fair 1000", .str "ranks lent fair 2 ", .str "fair x", .str "any\n"]
theorem q7 (d0 : D) (e4 e5 e6 e7 e8 e9 : Option D) (g s : Int) : q_law_7 ⟨envM d0 e4 e5 e6 e7 e8 e9, bx g s⟩ = .nx ⟨envM d0 e4 e5 e6 e7 e8 (some (.lst bad1)), bx g s⟩ := by kernel_rfl
theorem q8 (d0 : D) (e4 e5 e6 e7 e8 : Option D) (g s : Int) : q_law_8 ⟨envM d0 e4 e5 e6 e7 e8 (some (.lst bad1)), bx g s⟩ = .nx ⟨envM d0 e4 e5 e6 e7 e8 (some (.lst (bad1 ++ bad2))), bx g s⟩ := by kernel_rfl
theorem q9 (d0 : D) (e4 e5 e6 e7 e8 : Option D) (g s : Int) : q_law_9 ⟨envM d0 e4 e5 e6 e7 e8 (some (.lst (bad1 ++ bad2))), bx g s⟩ = .nx ⟨envM d0 e4 e5 e6 e7 (some (.obj 0 ["ranked", "lent", "fair"] [.bl false, .bl false, .non])) (some (.lst (bad1 ++ bad2))), bx g s⟩ := by kernel_rfl
theorem law_true (ns : List Int) (hn : ns.length ≤ 63) : ∃ cs, runF 10 b_law [.frl (ns.map D.int)] [] = .ok (.bl true) cs := by
  obtain ⟨g0, s0, hb⟩ := box_ok ns
  obtain ⟨e4, e5, e6, g1, s1, h1⟩ := q1 (.frl (ns.map D.int)) g0 s0
  obtain ⟨e8, g2, s2, h5⟩ := q5 (.frl (ns.map D.int)) e4 e5 e6 (some odd) (some (.lst [.bl true])) none g1 s1
  refine ⟨_, ev_runRt (env := [some (.frl (ns.map D.int)), none, none, none, none, none, none, none, none, none]) (st1 := ⟨envM (.frl (ns.map D.int)) e4 e5 e6 (some odd) (some (.obj 0 ["ranked", "lent", "fair"] [.bl false, .bl false, .non])) (some (.lst (bad1 ++ bad2))), bx g2 s2⟩) rfl ?_⟩
  refine ev_sSeq (st1 := ⟨[some (.frl (ns.map D.int)), some (.loc 0), none, none, none, none, none, none, none, none], bx g0 s0⟩) (ev_sAsg (ev_eCallAll (c1 := []) rfl hb) rfl) ?_
  exact ev_sSeq h1 (ev_sSeq (q2 _ _ _ _ _ _ _ _ _) (ev_sSeq (q3 _ _ _ _ _ _ _ _ _) (ev_sSeq (q4 _ _ _ _ _ _ _ _) (ev_sSeq h5 (ev_sSeq (q6 _ _ _ _ _ _ _ _ _) (ev_sSeq (q7 _ _ _ _ _ _ _ _ _) (ev_sSeq (q8 _ _ _ _ _ _ _ _) (ev_sSeq (q9 _ _ _ _ _ _ _ _) rfl))))))))
end K66

namespace K66
open PySem L2 PyProof.Rows VL
theorem all_mk {l : PySem.W.OpenLaw} {w : World} {K : PySem.W.Frag} {h : Heap} {mg : Str → Option Value} {fa : Addr} (X : K.In h) (G : h.Ns mainGlobals mg) (hfa : mg "law" = some (.ref fa))
    {C_Turns : Addr} {f_is_integer : Addr} {od_is_integer : Option Addr} {an_is_integer : Option Addr} {sl_is_integer : Array (Option Value)} {oc_is_integer : Value} {kV_is_integer : Value} {dc_is_integer : Value} {pm_is_integer : Value} {cd_is_integer : Value} {ct_is_integer : Value} {f_is_number : Addr} {od_is_number : Option Addr} {an_is_number : Option Addr} {sl_is_number : Array (Option Value)} {oc_is_number : Value} {kV_is_number : Value} {dc_is_number : Value} {pm_is_number : Value} {cd_is_number : Value} {ct_is_number : Value} {f_init : Addr} {od_init : Option Addr} {an_init : Option Addr} {sl_init : Array (Option Value)} {oc_init : Value} {kV_init : Value} {dc_init : Value} {pm_init : Value} {cd_init : Value} {ct_init : Value} {T_init : Addr} {oT_init : Value} {dT_init : Option Addr} {nT_init : Nat} {sT_init : Array (Option Value)} {f_fair_in : Addr} {od_fair_in : Option Addr} {an_fair_in : Option Addr} {sl_fair_in : Array (Option Value)} {oc_fair_in : Value} {kV_fair_in : Value} {dc_fair_in : Value} {pm_fair_in : Value} {cd_fair_in : Value} {ct_fair_in : Value} {f_read : Addr} {od_read : Option Addr} {an_read : Option Addr} {sl_read : Array (Option Value)} {oc_read : Value} {kV_read : Value} {dc_read : Value} {pm_read : Value} {cd_read : Value} {ct_read : Value} {p_read : Addr} {r_read : List Value} {f_str : Addr} {od_str : Option Addr} {an_str : Option Addr} {sl_str : Array (Option Value)} {oc_str : Value} {kV_str : Value} {dc_str : Value} {pm_str : Value} {cd_str : Value} {ct_str : Value} {f_eq : Addr} {od_eq : Option Addr} {an_eq : Option Addr} {sl_eq : Array (Option Value)} {oc_eq : Value} {kV_eq : Value} {dc_eq : Value} {pm_eq : Value} {cd_eq : Value} {ct_eq : Value} {f_box : Addr} {od_box : Option Addr} {an_box : Option Addr} {sl_box : Array (Option Value)} {oc_box : Value} {kV_box : Value} {dc_box : Value} {pm_box : Value} {cd_box : Value} {ct_box : Value} {f_take : Addr} {od_take : Option Addr} {an_take : Option Addr} {sl_take : Array (Option Value)} {oc_take : Value} {kV_take : Value} {dc_take : Value} {pm_take : Value} {cd_take : Value} {ct_take : Value} {f_pick : Addr} {od_pick : Option Addr} {an_pick : Option Addr} {sl_pick : Array (Option Value)} {oc_pick : Value} {kV_pick : Value} {dc_pick : Value} {pm_pick : Value} {cd_pick : Value} {ct_pick : Value} {f_heard : Addr} {od_heard : Option Addr} {an_heard : Option Addr} {sl_heard : Array (Option Value)} {oc_heard : Value} {kV_heard : Value} {dc_heard : Value} {pm_heard : Value} {cd_heard : Value} {ct_heard : Value} {f_lread : Addr} {od_lread : Option Addr} {an_lread : Option Addr} {sl_lread : Array (Option Value)} {oc_lread : Value} {kV_lread : Value} {dc_lread : Value} {pm_lread : Value} {cd_lread : Value} {ct_lread : Value} {f_told : Addr} {od_told : Option Addr} {an_told : Option Addr} {sl_told : Array (Option Value)} {oc_told : Value} {kV_told : Value} {dc_told : Value} {pm_told : Value} {cd_told : Value} {ct_told : Value} {f_law : Addr} {od_law : Option Addr} {an_law : Option Addr} {sl_law : Array (Option Value)} {oc_law : Value} {kV_law : Value} {dc_law : Value} {pm_law : Value} {cd_law : Value} {ct_law : Value} {tc_DIGITS : Tok} {C_RoadError : Addr} {C_InvalidTurns : Addr} {f_InvalidTurns : Addr} {cc_InvalidTurns : Addr} {cda_InvalidTurns : Addr} {oc_InvalidTurns : Value} {cl_InvalidTurns : Value} {ccl_InvalidTurns : Value} {kV_InvalidTurns : Value} {doc_InvalidTurns : Value} {pm_InvalidTurns : Value} {cu_InvalidTurns : Value} {od_InvalidTurns : Option Addr} {cld_InvalidTurns : Option Addr} {cdd_InvalidTurns : Option Addr} {an_InvalidTurns : Option Addr} {osl_InvalidTurns : Array (Option Value)} {csl_InvalidTurns : Array (Option Value)} {ccs_InvalidTurns : Array (Option Value)} {vs_InvalidTurns : Array Value} {file_InvalidTurns : Str} {tf_InvalidTurns : Tok} {C_InvalidText : Addr} {f_InvalidText : Addr} {cc_InvalidText : Addr} {cda_InvalidText : Addr} {oc_InvalidText : Value} {cl_InvalidText : Value} {ccl_InvalidText : Value} {kV_InvalidText : Value} {doc_InvalidText : Value} {pm_InvalidText : Value} {cu_InvalidText : Value} {od_InvalidText : Option Addr} {cld_InvalidText : Option Addr} {cdd_InvalidText : Option Addr} {an_InvalidText : Option Addr} {osl_InvalidText : Array (Option Value)} {csl_InvalidText : Array (Option Value)} {ccs_InvalidText : Array (Option Value)} {vs_InvalidText : Array Value} {file_InvalidText : Str} {tf_InvalidText : Tok}
    (aC_Turns : PySem.W.nsIn K mainGlobals "Turns" = some (some (.ref C_Turns)))
    (pg_Turns : PySem.W.plainGet K C_Turns Str.empty = true)
    (hd_Turns : PySem.W.hasDictIn K C_Turns = true)
    (po_Turns : PySem.W.plainOver K C_Turns = true)
    (sa_Turns : PySem.W.findIn K (.ref C_Turns) "__setattr__" = some (some (.builtin "object.__setattr__")))
    (mk_Turns : PySem.W.makesIn K C_Turns = true)
    (kc_Turns : PySem.W.keepIn K (.ref C_Turns) = true)
    (nF_Turns_ranked : PySem.W.findIn K (.ref C_Turns) "ranked" = some none)
    (nF_Turns_lent : PySem.W.findIn K (.ref C_Turns) "lent" = some none)
    (nF_Turns_fair : PySem.W.findIn K (.ref C_Turns) "fair" = some none)
    (a_is_integer : PySem.W.nsIn K mainGlobals "is_integer" = some (some (.ref f_is_integer)))
    (l_is_integer : K.lookup f_is_integer = some ⟨oc_is_integer, od_is_integer, .func (PySem.W.fnOf "is_integer" "is_integer" (defArgs s_is_integer) (defBody s_is_integer) (defScope s_is_integer) .none kV_is_integer dc_is_integer pm_is_integer an_is_integer cd_is_integer ct_is_integer), sl_is_integer⟩)
    (c_is_integer : PySem.W.codeIn K cd_is_integer "is_integer" = true)
    (k_is_integer : PySem.W.keepIn K (.ref f_is_integer) = true)
    (a_is_number : PySem.W.nsIn K mainGlobals "is_number" = some (some (.ref f_is_number)))
    (l_is_number : K.lookup f_is_number = some ⟨oc_is_number, od_is_number, .func (PySem.W.fnOf "is_number" "is_number" (defArgs s_is_number) (defBody s_is_number) (defScope s_is_number) .none kV_is_number dc_is_number pm_is_number an_is_number cd_is_number ct_is_number), sl_is_number⟩)
    (c_is_number : PySem.W.codeIn K cd_is_number "is_number" = true)
    (k_is_number : PySem.W.keepIn K (.ref f_is_number) = true)
    (a_init : PySem.W.findIn K (.ref C_Turns) "__init__" = some (some (.ref f_init)))
    (i_init : PySem.W.isFn K (.ref f_init) = true)
    (l_init : K.lookup f_init = some ⟨oc_init, od_init, .func (PySem.W.fnOf "__init__" "Turns.__init__" (defArgs s_init) (defBody s_init) (defScope s_init) (.ref T_init) kV_init dc_init pm_init an_init cd_init ct_init), sl_init⟩)
    (c_init : PySem.W.codeIn K cd_init "Turns.__init__" = true)
    (k_init : PySem.W.keepIn K (.ref f_init) = true)
    (lT_init : K.lookup T_init = some ⟨oT_init, dT_init, .seq #[.bool false, .bool false, .none] nT_init, sT_init⟩)
    (a_fair_in : PySem.W.nsIn K mainGlobals "fair_in" = some (some (.ref f_fair_in)))
    (l_fair_in : K.lookup f_fair_in = some ⟨oc_fair_in, od_fair_in, .func (PySem.W.fnOf "fair_in" "fair_in" (defArgs s_fair_in) (defBody s_fair_in) (defScope s_fair_in) .none kV_fair_in dc_fair_in pm_fair_in an_fair_in cd_fair_in ct_fair_in), sl_fair_in⟩)
    (c_fair_in : PySem.W.codeIn K cd_fair_in "fair_in" = true)
    (k_fair_in : PySem.W.keepIn K (.ref f_fair_in) = true)
    (rd_Turns : PySem.W.readsIn K C_Turns (.type "type") = true)
    (ga_Turns : PySem.W.specialIn K (.ref C_Turns) "__getattribute__" = some (some (.builtin "type.__getattribute__")))
    (a_read : PySem.W.findCls K (.ref C_Turns) (.type "type") "read" = some (.get (.builtin "classmethod.__get__") (.ref p_read) .none (.ref C_Turns)))
    (rc_read : PySem.W.recIn K p_read "classmethod" = some (.ref f_read :: r_read))
    (i_read : PySem.W.fnIn K f_read = true)
    (l_read : K.lookup f_read = some ⟨oc_read, od_read, .func (PySem.W.fnOf "read" "Turns.read" (defArgs s_read) (defBody s_read) (defScope s_read) .none kV_read dc_read pm_read an_read cd_read ct_read), sl_read⟩)
    (c_read : PySem.W.codeIn K cd_read "Turns.read" = true)
    (k_read : PySem.W.keepIn K (.ref f_read) = true)
    (a_str : PySem.W.findIn K (.ref C_Turns) "__str__" = some (some (.ref f_str)))
    (i_str : PySem.W.isFn K (.ref f_str) = true)
    (l_str : K.lookup f_str = some ⟨oc_str, od_str, .func (PySem.W.fnOf "__str__" "Turns.__str__" (defArgs s_str) (defBody s_str) (defScope s_str) .none kV_str dc_str pm_str an_str cd_str ct_str), sl_str⟩)
    (c_str : PySem.W.codeIn K cd_str "Turns.__str__" = true)
    (k_str : PySem.W.keepIn K (.ref f_str) = true)
    (a_eq : PySem.W.findIn K (.ref C_Turns) "__eq__" = some (some (.ref f_eq)))
    (i_eq : PySem.W.isFn K (.ref f_eq) = true)
    (l_eq : K.lookup f_eq = some ⟨oc_eq, od_eq, .func (PySem.W.fnOf "__eq__" "Turns.__eq__" (defArgs s_eq) (defBody s_eq) (defScope s_eq) .none kV_eq dc_eq pm_eq an_eq cd_eq ct_eq), sl_eq⟩)
    (c_eq : PySem.W.codeIn K cd_eq "Turns.__eq__" = true)
    (k_eq : PySem.W.keepIn K (.ref f_eq) = true)
    (a_box : PySem.W.nsIn K mainGlobals "_law_box" = some (some (.ref f_box)))
    (l_box : K.lookup f_box = some ⟨oc_box, od_box, .func (PySem.W.fnOf "_law_box" "_law_box" (defArgs s_box) (defBody s_box) (defScope s_box) .none kV_box dc_box pm_box an_box cd_box ct_box), sl_box⟩)
    (c_box : PySem.W.codeIn K cd_box "_law_box" = true)
    (k_box : PySem.W.keepIn K (.ref f_box) = true)
    (a_take : PySem.W.nsIn K mainGlobals "_law_take" = some (some (.ref f_take)))
    (l_take : K.lookup f_take = some ⟨oc_take, od_take, .func (PySem.W.fnOf "_law_take" "_law_take" (defArgs s_take) (defBody s_take) (defScope s_take) .none kV_take dc_take pm_take an_take cd_take ct_take), sl_take⟩)
    (c_take : PySem.W.codeIn K cd_take "_law_take" = true)
    (k_take : PySem.W.keepIn K (.ref f_take) = true)
    (a_pick : PySem.W.nsIn K mainGlobals "_law_pick" = some (some (.ref f_pick)))
    (l_pick : K.lookup f_pick = some ⟨oc_pick, od_pick, .func (PySem.W.fnOf "_law_pick" "_law_pick" (defArgs s_pick) (defBody s_pick) (defScope s_pick) .none kV_pick dc_pick pm_pick an_pick cd_pick ct_pick), sl_pick⟩)
    (c_pick : PySem.W.codeIn K cd_pick "_law_pick" = true)
    (k_pick : PySem.W.keepIn K (.ref f_pick) = true)
    (a_heard : PySem.W.nsIn K mainGlobals "_law_heard" = some (some (.ref f_heard)))
    (l_heard : K.lookup f_heard = some ⟨oc_heard, od_heard, .func (PySem.W.fnOf "_law_heard" "_law_heard" (defArgs s_heard) (defBody s_heard) (defScope s_heard) .none kV_heard dc_heard pm_heard an_heard cd_heard ct_heard), sl_heard⟩)
    (c_heard : PySem.W.codeIn K cd_heard "_law_heard" = true)
    (k_heard : PySem.W.keepIn K (.ref f_heard) = true)
    (a_lread : PySem.W.nsIn K mainGlobals "_law_read" = some (some (.ref f_lread)))
    (l_lread : K.lookup f_lread = some ⟨oc_lread, od_lread, .func (PySem.W.fnOf "_law_read" "_law_read" (defArgs s_lread) (defBody s_lread) (defScope s_lread) .none kV_lread dc_lread pm_lread an_lread cd_lread ct_lread), sl_lread⟩)
    (c_lread : PySem.W.codeIn K cd_lread "_law_read" = true)
    (k_lread : PySem.W.keepIn K (.ref f_lread) = true)
    (a_told : PySem.W.nsIn K mainGlobals "_law_told" = some (some (.ref f_told)))
    (l_told : K.lookup f_told = some ⟨oc_told, od_told, .func (PySem.W.fnOf "_law_told" "_law_told" (defArgs s_told) (defBody s_told) (defScope s_told) .none kV_told dc_told pm_told an_told cd_told ct_told), sl_told⟩)
    (c_told : PySem.W.codeIn K cd_told "_law_told" = true)
    (k_told : PySem.W.keepIn K (.ref f_told) = true)
    (a_law : PySem.W.nsIn K mainGlobals "law" = some (some (.ref f_law)))
    (l_law : K.lookup f_law = some ⟨oc_law, od_law, .func (PySem.W.fnOf "law" "law" (defArgs s_law) (defBody s_law) (defScope s_law) .none kV_law dc_law pm_law an_law cd_law ct_law), sl_law⟩)
    (c_law : PySem.W.codeIn K cd_law "law" = true)
    (k_law : PySem.W.keepIn K (.ref f_law) = true)
    (cv_DIGITS : PySem.W.nsIn K mainGlobals "DIGITS" = some (some (.str "0123456789" tc_DIGITS)))
    (z_len : PySem.W.nsIn K mainGlobals "len" = some none)
    (z_int : PySem.W.nsIn K mainGlobals "int" = some none)
    (z_abs : PySem.W.nsIn K mainGlobals "abs" = some none)
    (z_isinstance : PySem.W.nsIn K mainGlobals "isinstance" = some none)
    (z_bool : PySem.W.nsIn K mainGlobals "bool" = some none)
    (z_str : PySem.W.nsIn K mainGlobals "str" = some none)
    (z_all : PySem.W.nsIn K mainGlobals "all" = some none)
    (z_repr : PySem.W.nsIn K mainGlobals "repr" = some none)
    (z_super : PySem.W.nsIn K mainGlobals "super" = some none)
    (top_super : (l.prog.main.scope.names.lookup ("super" : Str)).isSome = false)
    (any_tp : PySem.W.nsIn K cStatics "thirdparty.any" = some none)
    (kb_bool : PySem.W.kitOne K (.ref C_Turns) (.type "bool") = some false)
    (kb_int : PySem.W.kitOne K (.ref C_Turns) (.type "int") = some false)
    (kb_str : PySem.W.kitOne K (.ref C_Turns) (.type "str") = some false)
    (ko_NoneType : PySem.W.kitOne K (.type "NoneType") (.ref C_Turns) = some false)
    (ko_bool : PySem.W.kitOne K (.type "bool") (.ref C_Turns) = some false)
    (ko_int : PySem.W.kitOne K (.type "int") (.ref C_Turns) = some false)
    (ko_str : PySem.W.kitOne K (.type "str") (.ref C_Turns) = some false)
    (ko_tuple : PySem.W.kitOne K (.type "tuple") (.ref C_Turns) = some false)
    (ko_list : PySem.W.kitOne K (.type "list") (.ref C_Turns) = some false)
    (in1 : PySem.W.findIn K (.ref C_Turns) "__class__" = some (some (.builtin "object.__class__")))
    (in2 : PySem.W.specialIn K (.builtin "object.__class__") "__get__" = some (some (.builtin "getset_descriptor.__get__")))
    (in3 : PySem.W.takesIn K (.builtin "object.__class__") = some true)
    (in4 : PySem.W.mroIn K C_Turns (.type "object") = some true)
    (eq1 : PySem.W.findIn K (.ref C_Turns) "__ne__" = some (some (.builtin "object.__ne__")))
    (eq3 : PySem.W.subIn K (.type "str") (.ref C_Turns) = some false)
    (aC_RoadError : PySem.W.nsIn K mainGlobals "RoadError" = some (some (.ref C_RoadError)))
    (aC_InvalidTurns : PySem.W.nsIn K mainGlobals "InvalidTurns" = some (some (.ref C_InvalidTurns)))
    (hi_InvalidTurns : PySem.W.findIn K (.ref C_InvalidTurns) "__init__" = some (some (.ref f_InvalidTurns)))
    (ht_InvalidTurns : PySem.W.typeIn K (.ref f_InvalidTurns) = some (.type "function"))
    (lk_InvalidTurns : K.lookup f_InvalidTurns = some ⟨oc_InvalidTurns, od_InvalidTurns, .func (PySem.W.ksFn "__init__" "InvalidTurns.__init__" (defArgs s_x_InvalidTurns) (defBody s_x_InvalidTurns) (defScope s_x_InvalidTurns) .none kV_InvalidTurns doc_InvalidTurns pm_InvalidTurns an_InvalidTurns (.ref cda_InvalidTurns) cu_InvalidTurns cc_InvalidTurns), osl_InvalidTurns⟩)
    (cd_InvalidTurns : PySem.W.codeIn K (.ref cda_InvalidTurns) "InvalidTurns.__init__" = true)
    (co_InvalidTurns : K.lookup cda_InvalidTurns = some ⟨ccl_InvalidTurns, cdd_InvalidTurns, .fields vs_InvalidTurns, ccs_InvalidTurns⟩)
    (vs2_InvalidTurns : vs_InvalidTurns[2]? = some (.str file_InvalidTurns tf_InvalidTurns))
    (fi_InvalidTurns : ((l.prog.main.file : Str) == file_InvalidTurns) = true)
    (ce_InvalidTurns : K.lookup cc_InvalidTurns = some ⟨cl_InvalidTurns, cld_InvalidTurns, .cell (some (.ref C_InvalidTurns)), csl_InvalidTurns⟩)
    (ox_InvalidTurns : oexB K C_InvalidTurns = true)
    (sa_InvalidTurns : PySem.W.findIn K (.ref C_InvalidTurns) "__setattr__" = some (some (.builtin "object.__setattr__")))
    (be_InvalidTurns : PySem.W.subIn K (.ref C_InvalidTurns) (.type "BaseException") = some true)
    (ty_InvalidTurns : PySem.W.typeIn K (.ref C_InvalidTurns) = some (.type "type"))
    (kp_InvalidTurns : PySem.W.keepIn K (.ref C_InvalidTurns) = true)
    (nf_InvalidTurns : PySem.W.findIn K (.ref C_InvalidTurns) "word" = some none)
    (su_InvalidTurns : PySem.W.ks_superIn K C_InvalidTurns C_InvalidTurns "__init__" = some (some (.builtin "ValueError.__init__")))
    (mr_InvalidTurns : PySem.W.mroIn K C_InvalidTurns (.ref C_InvalidTurns) = some true)
    (ve_InvalidTurns : PySem.W.subIn K (.ref C_InvalidTurns) (.type "ValueError") = some true)
    (gt_InvalidTurns : PySem.W.findIn K (.ref C_InvalidTurns) "__getattribute__" = some (some (.builtin "BaseException.__getattribute__")))
    (gg_InvalidTurns : PySem.W.findIn K (.ref C_InvalidTurns) "__getattr__" = some none)
    (dd_InvalidTurns : PySem.W.hasDictIn K C_InvalidTurns = true)
    (cs_InvalidTurns : PySem.W.findIn K (.ref C_InvalidTurns) "__class__" = some (some (.builtin "object.__class__")))
    (mo_InvalidTurns : PySem.W.mroIn K C_InvalidTurns (.type "object") = some true)
    (em_InvalidTurns : PySem.W.exmOne K (.ref C_InvalidTurns) (.ref C_InvalidTurns) = some true)
    (aC_InvalidText : PySem.W.nsIn K mainGlobals "InvalidText" = some (some (.ref C_InvalidText)))
    (hi_InvalidText : PySem.W.findIn K (.ref C_InvalidText) "__init__" = some (some (.ref f_InvalidText)))
    (ht_InvalidText : PySem.W.typeIn K (.ref f_InvalidText) = some (.type "function"))
    (lk_InvalidText : K.lookup f_InvalidText = some ⟨oc_InvalidText, od_InvalidText, .func (PySem.W.ksFn "__init__" "InvalidText.__init__" (defArgs s_x_InvalidText) (defBody s_x_InvalidText) (defScope s_x_InvalidText) .none kV_InvalidText doc_InvalidText pm_InvalidText an_InvalidText (.ref cda_InvalidText) cu_InvalidText cc_InvalidText), osl_InvalidText⟩)
    (cd_InvalidText : PySem.W.codeIn K (.ref cda_InvalidText) "InvalidText.__init__" = true)
    (co_InvalidText : K.lookup cda_InvalidText = some ⟨ccl_InvalidText, cdd_InvalidText, .fields vs_InvalidText, ccs_InvalidText⟩)
    (vs2_InvalidText : vs_InvalidText[2]? = some (.str file_InvalidText tf_InvalidText))
    (fi_InvalidText : ((l.prog.main.file : Str) == file_InvalidText) = true)
    (ce_InvalidText : K.lookup cc_InvalidText = some ⟨cl_InvalidText, cld_InvalidText, .cell (some (.ref C_InvalidText)), csl_InvalidText⟩)
    (ox_InvalidText : oexB K C_InvalidText = true)
    (sa_InvalidText : PySem.W.findIn K (.ref C_InvalidText) "__setattr__" = some (some (.builtin "object.__setattr__")))
    (be_InvalidText : PySem.W.subIn K (.ref C_InvalidText) (.type "BaseException") = some true)
    (ty_InvalidText : PySem.W.typeIn K (.ref C_InvalidText) = some (.type "type"))
    (kp_InvalidText : PySem.W.keepIn K (.ref C_InvalidText) = true)
    (nf_InvalidText : PySem.W.findIn K (.ref C_InvalidText) "at" = some none)
    (su_InvalidText : PySem.W.ks_superIn K C_InvalidText C_InvalidText "__init__" = some (some (.builtin "ValueError.__init__")))
    (mr_InvalidText : PySem.W.mroIn K C_InvalidText (.ref C_InvalidText) = some true)
    (ve_InvalidText : PySem.W.subIn K (.ref C_InvalidText) (.type "ValueError") = some true)
    (gt_InvalidText : PySem.W.findIn K (.ref C_InvalidText) "__getattribute__" = some (some (.builtin "BaseException.__getattribute__")))
    (gg_InvalidText : PySem.W.findIn K (.ref C_InvalidText) "__getattr__" = some none)
    (dd_InvalidText : PySem.W.hasDictIn K C_InvalidText = true)
    (cs_InvalidText : PySem.W.findIn K (.ref C_InvalidText) "__class__" = some (some (.builtin "object.__class__")))
    (mo_InvalidText : PySem.W.mroIn K C_InvalidText (.type "object") = some true)
    (em_InvalidText : PySem.W.exmOne K (.ref C_InvalidText) (.ref C_InvalidText) = some true)
    (xk1 : PySem.W.kitOne K (.ref C_InvalidTurns) (.ref C_RoadError) = some true)
    (xk2 : PySem.W.kitOne K (.ref C_InvalidTurns) (.ref C_InvalidText) = some false) :
    ∃ fd : FuncData, (∀ (s : Shared) (u : Value), BindsTo s fd ⟨[u], []⟩ [("_law_script", u)]) ∧ ∃ sp : Sp, (∀ base : Heap, K.In base → base.Ns mainGlobals mg → AtC l.prog w K mg base (L2.CX l.prog w) 8 fa fd ["_law_script"] sp) ∧
      ∀ (H : Hp) (a : Addr) (ns : List Int), ns.length ≤ 63 → Only H → SqL K H a (ns.map V.int) → sp [.ref a] H (fun v _ => v = .bl true) fun _ _ _ => False := by
  have e := hfa.symm.trans (PySem.W.mg_of X G a_law)
  cases e
  let κ : Nat → Addr := fun n => [C_Turns, C_InvalidTurns, C_InvalidText, C_RoadError].getD n 0
  have F_is_integer : FunA (Kt.mk K κ).K "is_integer" "is_integer" s_is_integer .none f_is_integer _ := funA_mk (K := ⟨K, κ⟩) l_is_integer c_is_integer
  have B_is_integer := F_is_integer.binds (K := ⟨K, κ⟩) (ps := ["value"]) (fun _ _ _ _ _ _ us hl => match us, hl with | [_], _ => rfl)
  have F_is_number : FunA (Kt.mk K κ).K "is_number" "is_number" s_is_number .none f_is_number _ := funA_mk (K := ⟨K, κ⟩) l_is_number c_is_number
  have B_is_number := F_is_number.binds (K := ⟨K, κ⟩) (ps := ["value"]) (fun _ _ _ _ _ _ us hl => match us, hl with | [_], _ => rfl)
  have F_init : FunA (Kt.mk K κ).K "__init__" "Turns.__init__" s_init (.ref T_init) f_init _ := funA_mk (K := ⟨K, κ⟩) l_init c_init
  have B_init := F_init.bindsD (K := ⟨K, κ⟩) (ps := ["self", "ranked", "lent", "fair"]) lT_init rfl (fun _ _ _ _ _ _ us hl => match us, hl with | [_, _, _, _], _ => ⟨_, rfl, rfl⟩)
  have Phi_Turns : PhiT ⟨K, κ⟩ _ := ⟨F_init.kbnD (K := ⟨K, κ⟩) (ps := ["self", "ranked", "lent", "fair"]) (ks := ["fair", "lent", "ranked"]) (ix := [2, 1, 0]) lT_init rfl (fun _ _ _ _ _ _ us ws hl hw => match us, hl, ws, hw with | [_], _, [_, _, _], _ => ⟨_, rfl, rfl⟩),
    _, [.bl false, .bl false, .non], F_init.bindsN (K := ⟨K, κ⟩) (ps := ["self", "ranked", "lent", "fair"]) lT_init rfl rfl (fun _ _ _ _ _ _ _ => ⟨_, rfl, rfl⟩), .cons rfl (.cons rfl (.cons rfl .nil)), fun _ _ => .cons (.bl _) (.cons (.bl _) (.cons .non .nil))⟩
  have F_fair_in : FunA (Kt.mk K κ).K "fair_in" "fair_in" s_fair_in .none f_fair_in _ := funA_mk (K := ⟨K, κ⟩) l_fair_in c_fair_in
  have B_fair_in := F_fair_in.binds (K := ⟨K, κ⟩) (ps := ["words"]) (fun _ _ _ _ _ _ us hl => match us, hl with | [_], _ => rfl)
  have F_read : FunA (Kt.mk K κ).K "read" "Turns.read" s_read .none f_read _ := funA_mk (K := ⟨K, κ⟩) l_read c_read
  have B_read := F_read.binds (K := ⟨K, κ⟩) (ps := ["cls", "text"]) (fun _ _ _ _ _ _ us hl => match us, hl with | [_, _], _ => rfl)
  have F_str : FunA (Kt.mk K κ).K "__str__" "Turns.__str__" s_str .none f_str _ := funA_mk (K := ⟨K, κ⟩) l_str c_str
  have B_str := F_str.binds (K := ⟨K, κ⟩) (ps := ["self"]) (fun _ _ _ _ _ _ us hl => match us, hl with | [_], _ => rfl)
  have F_eq : FunA (Kt.mk K κ).K "__eq__" "Turns.__eq__" s_eq .none f_eq _ := funA_mk (K := ⟨K, κ⟩) l_eq c_eq
  have B_eq := F_eq.binds (K := ⟨K, κ⟩) (ps := ["self", "other"]) (fun _ _ _ _ _ _ us hl => match us, hl with | [_, _], _ => rfl)
  have F_box : FunA (Kt.mk K κ).K "_law_box" "_law_box" s_box .none f_box _ := funA_mk (K := ⟨K, κ⟩) l_box c_box
  have B_box := F_box.binds (K := ⟨K, κ⟩) (ps := ["_law_script", "_law_k"]) (fun _ _ _ _ _ _ us hl => match us, hl with | [_, _], _ => rfl)
  have F_take : FunA (Kt.mk K κ).K "_law_take" "_law_take" s_take .none f_take _ := funA_mk (K := ⟨K, κ⟩) l_take c_take
  have B_take := F_take.binds (K := ⟨K, κ⟩) (ps := ["_law_box_here", "_law_many"]) (fun _ _ _ _ _ _ us hl => match us, hl with | [_, _], _ => rfl)
  have F_pick : FunA (Kt.mk K κ).K "_law_pick" "_law_pick" s_pick .none f_pick _ := funA_mk (K := ⟨K, κ⟩) l_pick c_pick
  have B_pick := F_pick.binds (K := ⟨K, κ⟩) (ps := ["_law_box_here", "_law_some"]) (fun _ _ _ _ _ _ us hl => match us, hl with | [_, _], _ => rfl)
  have F_heard : FunA (Kt.mk K κ).K "_law_heard" "_law_heard" s_heard .none f_heard _ := funA_mk (K := ⟨K, κ⟩) l_heard c_heard
  have B_heard := F_heard.binds (K := ⟨K, κ⟩) (ps := ["_law_ranked", "_law_lent", "_law_fair"]) (fun _ _ _ _ _ _ us hl => match us, hl with | [_, _, _], _ => rfl)
  have F_lread : FunA (Kt.mk K κ).K "_law_read" "_law_read" s_lread .none f_lread _ := funA_mk (K := ⟨K, κ⟩) l_lread c_lread
  have B_lread := F_lread.binds (K := ⟨K, κ⟩) (ps := ["_law_thing"]) (fun _ _ _ _ _ _ us hl => match us, hl with | [_], _ => rfl)
  have F_told : FunA (Kt.mk K κ).K "_law_told" "_law_told" s_told .none f_told _ := funA_mk (K := ⟨K, κ⟩) l_told c_told
  have B_told := F_told.binds (K := ⟨K, κ⟩) (ps := ["_law_ranked", "_law_lent", "_law_fair"]) (fun _ _ _ _ _ _ us hl => match us, hl with | [_, _, _], _ => rfl)
  have IC : InsC K C_Turns := ⟨⟨pg_Turns, hd_Turns, po_Turns, sa_Turns⟩, in1, in2, in3, in4⟩
  have X_InvalidTurns := fun base : Heap => mkx_InvalidTurns (P := l.prog) (w := w) (K := ⟨K, κ⟩) (mg := mg) (base := base) lk_InvalidTurns cd_InvalidTurns co_InvalidTurns vs2_InvalidTurns fi_InvalidTurns ce_InvalidTurns (oex_of ox_InvalidTurns sa_InvalidTurns be_InvalidTurns ty_InvalidTurns kp_InvalidTurns) nf_InvalidTurns su_InvalidTurns mr_InvalidTurns ve_InvalidTurns any_tp (PySem.W.mg_none_of X G z_super) top_super (PySem.W.mg_of X G aC_InvalidTurns) hi_InvalidTurns ht_InvalidTurns
  have X_InvalidText := fun base : Heap => mkx_InvalidText (P := l.prog) (w := w) (K := ⟨K, κ⟩) (mg := mg) (base := base) lk_InvalidText cd_InvalidText co_InvalidText vs2_InvalidText fi_InvalidText ce_InvalidText (oex_of ox_InvalidText sa_InvalidText be_InvalidText ty_InvalidText kp_InvalidText) nf_InvalidText su_InvalidText mr_InvalidText ve_InvalidText any_tp (PySem.W.mg_none_of X G z_super) top_super (PySem.W.mg_of X G aC_InvalidText) hi_InvalidText ht_InvalidText
  have T : Tx ⟨K, κ⟩ mg := { b_len := PySem.W.mg_none_of X G z_len, b_int := PySem.W.mg_none_of X G z_int, b_abs := PySem.W.mg_none_of X G z_abs, b_isinstance := PySem.W.mg_none_of X G z_isinstance, b_bool := PySem.W.mg_none_of X G z_bool, b_str := PySem.W.mg_none_of X G z_str, b_all := PySem.W.mg_none_of X G z_all, b_repr := PySem.W.mg_none_of X G z_repr, b_super := PySem.W.mg_none_of X G z_super, f_Turns_ranked := ⟨⟨pg_Turns, hd_Turns, po_Turns, sa_Turns⟩, nF_Turns_ranked⟩, f_Turns_lent := ⟨⟨pg_Turns, hd_Turns, po_Turns, sa_Turns⟩, nF_Turns_lent⟩, f_Turns_fair := ⟨⟨pg_Turns, hd_Turns, po_Turns, sa_Turns⟩, nF_Turns_fair⟩, t_is_integer := ⟨f_is_integer, _, PySem.W.mg_of X G a_is_integer, k_is_integer, F_is_integer, B_is_integer⟩, t_is_number := ⟨f_is_number, _, PySem.W.mg_of X G a_is_number, k_is_number, F_is_number, B_is_number⟩, t_init := ⟨f_init, _, PySem.W.mg_of X G aC_Turns, ⟨mk_Turns, a_init, i_init, kc_Turns⟩, ⟨_, F_init⟩, B_init, Phi_Turns⟩, t_fair_in := ⟨f_fair_in, _, PySem.W.mg_of X G a_fair_in, k_fair_in, F_fair_in, B_fair_in⟩, t_read := ⟨f_read, p_read, _, .type "type", PySem.W.mg_of X G aC_Turns, ⟨rd_Turns, ga_Turns⟩, ⟨a_read, ⟨_, rc_read⟩, i_read⟩, F_read, B_read⟩, t_str := ⟨f_str, _, a_str, i_str, F_str, B_str⟩, t_eq := ⟨f_eq, _, a_eq, i_eq, F_eq, B_eq⟩, t_box := ⟨f_box, _, PySem.W.mg_of X G a_box, k_box, F_box, B_box⟩, t_take := ⟨f_take, _, PySem.W.mg_of X G a_take, k_take, F_take, B_take⟩, t_pick := ⟨f_pick, _, PySem.W.mg_of X G a_pick, k_pick, F_pick, B_pick⟩, t_heard := ⟨f_heard, _, PySem.W.mg_of X G a_heard, k_heard, F_heard, B_heard⟩, t_lread := ⟨f_lread, _, PySem.W.mg_of X G a_lread, k_lread, F_lread, B_lread⟩, t_told := ⟨f_told, _, PySem.W.mg_of X G a_told, k_told, F_told, B_told⟩, ai_bool := ansB_ok (K := ⟨K, κ⟩) kb_bool IC, ai_int := ansB_ok (K := ⟨K, κ⟩) kb_int IC, ai_str := ansB_ok (K := ⟨K, κ⟩) kb_str IC, ao_Turns := ansO_ok (K := ⟨K, κ⟩) (c0 := 0) (fun n hn => by simp only [tyNames, List.mem_cons, List.not_mem_nil, or_false] at hn; rcases hn with rfl | rfl | rfl | rfl | rfl | rfl; exact ko_NoneType; exact ko_bool; exact ko_int; exact ko_str; exact ko_tuple; exact ko_list) IC, xm_Turns := PySem.W.mg_of X G aC_Turns, xm_InvalidTurns := PySem.W.mg_of X G aC_InvalidTurns, xm_InvalidText := PySem.W.mg_of X G aC_InvalidText, xm_RoadError := PySem.W.mg_of X G aC_RoadError, eq_Turns := ⟨eq1, in4, eq3⟩, ct_InvalidTurns := (fun C b h => by unfold ct_InvalidTurns at h; split at h; (cases h; rename_i e; subst e; exact em_InvalidTurns); cases h), xf_InvalidTurns := ⟨gt_InvalidTurns, gg_InvalidTurns, be_InvalidTurns, dd_InvalidTurns⟩, xn_InvalidTurns := nf_InvalidTurns, ct_InvalidText := (fun C b h => by unfold ct_InvalidText at h; split at h; (cases h; rename_i e; subst e; exact em_InvalidText); cases h), xf_InvalidText := ⟨gt_InvalidText, gg_InvalidText, be_InvalidText, dd_InvalidText⟩, xn_InvalidText := nf_InvalidText, xe_InvalidTurns := ⟨gt_InvalidTurns, gg_InvalidTurns, be_InvalidTurns, dd_InvalidTurns, cs_InvalidTurns, in2, in3, mo_InvalidTurns⟩, xk_InvalidTurns_RoadError := xk1, xk_InvalidTurns_InvalidText := xk2, c_DIGITS := ⟨_, PySem.W.mg_of X G cv_DIGITS, ⟨_, rfl⟩⟩ }
  have Fl := fun_mk (st := s_law) l_law c_law k_law
  refine ⟨PySem.W.fnOf "law" "law" (defArgs s_law) (defBody s_law) (defScope s_law) .none kV_law dc_law pm_law an_law cd_law ct_law, fun s v => .of_eq rfl, spF ⟨K, κ⟩ 1 (runF 10 b_law), fun base _ _ => ?_, fun H a ns hl ho hs => law_pre (K := ⟨K, κ⟩) law_true H a ns hl ho hs⟩
  have D_is_integer := fun base : Heap => ok1_is_integer (P := l.prog) (w := w) (base := base) T 
  have D_is_number := fun base : Heap => ok1_is_number (P := l.prog) (w := w) (base := base) T (D_is_integer base)
  have D_init := fun base : Heap => ok1_init (P := l.prog) (w := w) (base := base) T (X_InvalidTurns base) (D_is_number base)
  have D_fair_in := fun base : Heap => ok1_fair_in (P := l.prog) (w := w) (base := base) T 
  have D_read := fun base : Heap => ok1_read (P := l.prog) (w := w) (base := base) T (X_InvalidText base) (D_fair_in base) (D_init base)
  have D_str := fun base : Heap => ok1_str (P := l.prog) (w := w) (base := base) T 
  have D_eq := fun base : Heap => ok1_eq (P := l.prog) (w := w) (base := base) T (D_str base)
  have D_box := fun base : Heap => ok1_box (P := l.prog) (w := w) (base := base) T 
  have D_take := fun base : Heap => ok1_take (P := l.prog) (w := w) (base := base) T 
  have D_pick := fun base : Heap => ok1_pick (P := l.prog) (w := w) (base := base) T (D_take base)
  have D_heard := fun base : Heap => ok1_heard (P := l.prog) (w := w) (base := base) T (D_init base)
  have D_lread := fun base : Heap => ok1_lread (P := l.prog) (w := w) (base := base) T (D_read base)
  have D_told := fun base : Heap => ok1_told (P := l.prog) (w := w) (base := base) T 
  exact ok_law T (D_box base) (D_take base) (D_init base) (D_told base) (D_str base) (D_eq base) (D_read base) (D_heard base) (D_pick base) (D_lread base) Fl
end K66
open PySem PySem.W PyProof.Rows
set_option maxRecDepth 100000 in
set_option maxHeartbeats 0 in
theorem PySem.Challenge.cw_plainroads_k66_turns_made_and_read_holds : PySem.Challenge.rw_plainroads_k66_turns_made_and_read.Holds := by
  w_on; o_law; k_head; (case hw => w_witness2)
  k_fill
  refine VL.walkC (l := PySem.Challenge.rw_plainroads_k66_turns_made_and_read) (n := 63) (k := 8) (x := "_law_script") (CX := fun w => L2.CX (PySem.Challenge.rw_plainroads_k66_turns_made_and_read).prog w) rfl (by decide) rfl ⟨rfl, by decide, by decide⟩ (fun w h Y => PySem.W.kIn_of Y) ?F (fun w H s e s1 => VL.noCX H s e s1)
  case F =>
    intro w mg fa h KX G hmg
    refine' K66.all_mk KX G hmg ?aC_Turns ?pg_Turns ?hd_Turns ?po_Turns ?sa_Turns ?mk_Turns ?kc_Turns ?nF_Turns_ranked ?nF_Turns_lent ?nF_Turns_fair ?a_is_integer ?l_is_integer ?c_is_integer ?k_is_integer ?a_is_number ?l_is_number ?c_is_number ?k_is_number ?a_init ?i_init ?l_init ?c_init ?k_init ?lT_init ?a_fair_in ?l_fair_in ?c_fair_in ?k_fair_in ?rd_Turns ?ga_Turns ?a_read ?rc_read ?i_read ?l_read ?c_read ?k_read ?a_str ?i_str ?l_str ?c_str ?k_str ?a_eq ?i_eq ?l_eq ?c_eq ?k_eq ?a_box ?l_box ?c_box ?k_box ?a_take ?l_take ?c_take ?k_take ?a_pick ?l_pick ?c_pick ?k_pick ?a_heard ?l_heard ?c_heard ?k_heard ?a_lread ?l_lread ?c_lread ?k_lread ?a_told ?l_told ?c_told ?k_told ?a_law ?l_law ?c_law ?k_law ?cv_DIGITS ?z_len ?z_int ?z_abs ?z_isinstance ?z_bool ?z_str ?z_all ?z_repr ?z_super ?top_super ?any_tp ?kb_bool ?kb_int ?kb_str ?ko_NoneType ?ko_bool ?ko_int ?ko_str ?ko_tuple ?ko_list ?in1 ?in2 ?in3 ?in4 ?eq1 ?eq3 ?aC_RoadError ?aC_InvalidTurns ?hi_InvalidTurns ?ht_InvalidTurns ?lk_InvalidTurns ?cd_InvalidTurns ?co_InvalidTurns ?vs2_InvalidTurns ?fi_InvalidTurns ?ce_InvalidTurns ?ox_InvalidTurns ?sa_InvalidTurns ?be_InvalidTurns ?ty_InvalidTurns ?kp_InvalidTurns ?nf_InvalidTurns ?su_InvalidTurns ?mr_InvalidTurns ?ve_InvalidTurns ?gt_InvalidTurns ?gg_InvalidTurns ?dd_InvalidTurns ?cs_InvalidTurns ?mo_InvalidTurns ?em_InvalidTurns ?aC_InvalidText ?hi_InvalidText ?ht_InvalidText ?lk_InvalidText ?cd_InvalidText ?co_InvalidText ?vs2_InvalidText ?fi_InvalidText ?ce_InvalidText ?ox_InvalidText ?sa_InvalidText ?be_InvalidText ?ty_InvalidText ?kp_InvalidText ?nf_InvalidText ?su_InvalidText ?mr_InvalidText ?ve_InvalidText ?gt_InvalidText ?gg_InvalidText ?dd_InvalidText ?cs_InvalidText ?mo_InvalidText ?em_InvalidText ?xk1 ?xk2
    (case aC_Turns => k_is)
    (case pg_Turns => k_is)
    (case hd_Turns => k_is)
    (case po_Turns => k_is)
    (case sa_Turns => k_is)
    (case mk_Turns => k_is)
    (case kc_Turns => k_is)
    (case nF_Turns_ranked => k_is)
    (case nF_Turns_lent => k_is)
    (case nF_Turns_fair => k_is)
    (case a_is_integer => k_is)
    (case l_is_integer => k_is)
    (case c_is_integer => k_is)
    (case k_is_integer => k_is)
    (case a_is_number => k_is)
    (case l_is_number => k_is)
    (case c_is_number => k_is)
    (case k_is_number => k_is)
    (case a_init => k_is)
    (case i_init => k_is)
    (case l_init => k_is)
    (case c_init => k_is)
    (case k_init => k_is)
    (case lT_init => k_is)
    (case a_fair_in => k_is)
    (case l_fair_in => k_is)
    (case c_fair_in => k_is)
    (case k_fair_in => k_is)
    (case rd_Turns => k_is)
    (case ga_Turns => k_is)
    (case a_read => k_is)
    (case rc_read => k_is)
    (case i_read => k_is)
    (case l_read => k_is)
    (case c_read => k_is)
    (case k_read => k_is)
    (case a_str => k_is)
    (case i_str => k_is)
    (case l_str => k_is)
    (case c_str => k_is)
    (case k_str => k_is)
    (case a_eq => k_is)
    (case i_eq => k_is)
    (case l_eq => k_is)
    (case c_eq => k_is)
    (case k_eq => k_is)
    (case a_box => k_is)
    (case l_box => k_is)
    (case c_box => k_is)
    (case k_box => k_is)
    (case a_take => k_is)
    (case l_take => k_is)
    (case c_take => k_is)
    (case k_take => k_is)
    (case a_pick => k_is)
    (case l_pick => k_is)
    (case c_pick => k_is)
    (case k_pick => k_is)
    (case a_heard => k_is)
    (case l_heard => k_is)
    (case c_heard => k_is)
    (case k_heard => k_is)
    (case a_lread => k_is)
    (case l_lread => k_is)
    (case c_lread => k_is)
    (case k_lread => k_is)
    (case a_told => k_is)
    (case l_told => k_is)
    (case c_told => k_is)
    (case k_told => k_is)
    (case a_law => k_is)
    (case l_law => k_is)
    (case c_law => k_is)
    (case k_law => k_is)
    (case cv_DIGITS => k_is)
    (case z_len => k_is)
    (case z_int => k_is)
    (case z_abs => k_is)
    (case z_isinstance => k_is)
    (case z_bool => k_is)
    (case z_str => k_is)
    (case z_all => k_is)
    (case z_repr => k_is)
    (case z_super => k_is)
    (case top_super => rfl)
    (case any_tp => k_is)
    (case kb_bool => kit_is)
    (case kb_int => kit_is)
    (case kb_str => kit_is)
    (case ko_NoneType => kit_is)
    (case ko_bool => kit_is)
    (case ko_int => kit_is)
    (case ko_str => kit_is)
    (case ko_tuple => kit_is)
    (case ko_list => kit_is)
    (case in1 => k_is)
    (case in2 => k_is)
    (case in3 => k_is)
    (case in4 => k_is)
    (case eq1 => k_is)
    (case eq3 => k_is)
    (case aC_RoadError => k_is)
    (case aC_InvalidTurns => k_is)
    (case hi_InvalidTurns => k_is)
    (case ht_InvalidTurns => k_is)
    (case lk_InvalidTurns => k_is)
    (case cd_InvalidTurns => k_is)
    (case co_InvalidTurns => k_is)
    (case vs2_InvalidTurns => rfl)
    (case fi_InvalidTurns => rfl)
    (case ce_InvalidTurns => k_is)
    (case ox_InvalidTurns => kernel_rfl)
    (case sa_InvalidTurns => k_is)
    (case be_InvalidTurns => k_is)
    (case ty_InvalidTurns => k_is)
    (case kp_InvalidTurns => k_is)
    (case nf_InvalidTurns => k_is)
    (case su_InvalidTurns => ks_is)
    (case mr_InvalidTurns => k_is)
    (case ve_InvalidTurns => k_is)
    (case gt_InvalidTurns => k_is)
    (case gg_InvalidTurns => k_is)
    (case dd_InvalidTurns => k_is)
    (case cs_InvalidTurns => k_is)
    (case mo_InvalidTurns => k_is)
    (case em_InvalidTurns => kts_exm)
    (case aC_InvalidText => k_is)
    (case hi_InvalidText => k_is)
    (case ht_InvalidText => k_is)
    (case lk_InvalidText => k_is)
    (case cd_InvalidText => k_is)
    (case co_InvalidText => k_is)
    (case vs2_InvalidText => rfl)
    (case fi_InvalidText => rfl)
    (case ce_InvalidText => k_is)
    (case ox_InvalidText => kernel_rfl)
    (case sa_InvalidText => k_is)
    (case be_InvalidText => k_is)
    (case ty_InvalidText => k_is)
    (case kp_InvalidText => k_is)
    (case nf_InvalidText => k_is)
    (case su_InvalidText => ks_is)
    (case mr_InvalidText => k_is)
    (case ve_InvalidText => k_is)
    (case gt_InvalidText => k_is)
    (case gg_InvalidText => k_is)
    (case dd_InvalidText => k_is)
    (case cs_InvalidText => k_is)
    (case mo_InvalidText => k_is)
    (case em_InvalidText => kts_exm)
    (case xk1 => kit_is)
    (case xk2 => kit_is)
